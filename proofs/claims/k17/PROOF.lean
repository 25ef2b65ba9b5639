import PyProof.Rows.All
import Wide.All
import OpenK.AllK
import Wide.FinOn
import PySem.Challenge.RW_thinkfigures_k17_spoilt_texts
import HandS.ForMost
import HandS.ForExc
import HandS.Lambda
import HandS.CallSlots
import HandS.CallLocal
import HandS.IsInst
import HandS.Wide
import HandS.TupAny
import HandS.TupMul
import HandS.Flow
import HandS.Conv
import HandS.Style
import HandS.Zip
import HandS.Defaults
import HandS.HeadHook1
import HandS.HeadHook2
import HandS.HeadHook3
import HandS.HeadHook4
import HandS.HeadWalk
import HandS.ExcCtx
import HandS.HotCalls
import HandS.ExcIs
import HandS.SortInts
import HandS.RaiseMore
import HandS.Hot
import HandS.Head0
import HandS.Head1
import HandS.Head2
import KE.KStateDown
import HandS.Dict
import HandS.Small
import KE.KIndexOf
import HandS.Nested
import HandS.Iter
import KE.GoesZip
import KE.GoesMore
import KE.GoesEnum
import HandS.Codes
set_option Elab.async false
set_option linter.all false
set_option maxRecDepth 100000
set_option maxHeartbeats 4000000
namespace FX
open PySem PySem.Spec PyProof.Rows L2
abbrev St := L2.St

/-! ### deep values -/
/-- a function made by a lambda: its object, its code object, its name, what it captured -/
structure Kl where
  a : Addr
  c : Addr
  q : Str
  us : List V
inductive D where
  | non | bl (b : Bool) | int (i : Int) | str (x : Str) | fn (n : Str)
  | tup (l : List D) | lst (l : List D) | scr (l : List Int) | exc (n : Str) (a : Addr) | clo (κ : Kl) (ds : List D)

/-- what stays the same through a whole run -/
structure G where
  K : PySem.W.Frag
  mg : Str → Option Value
  T : List (Addr × Str)

mutual
inductive Rp (g : G) (F : Hp) : D → V → Prop
  | non : Rp g F .non .non
  | bl (b : Bool) : Rp g F (.bl b) (.bl b)
  | int (i : Int) : Rp g F (.int i) (.int i)
  | str (x : Str) : Rp g F (.str x) (.str x)
  | fn {n : Str} {a : Addr} (h : g.mg n = some (.ref a)) : Rp g F (.fn n) (.ref a)
  | tup {l : List D} {a : Addr} {vs : List V} (h : SqT g.K F a vs) (r : RpL g F l vs) : Rp g F (.tup l) (.ref a)
  | lst {l : List D} {a : Addr} {vs : List V} (h : F a = some (.lst vs)) (r : RpL g F l vs) : Rp g F (.lst l) (.ref a)
  | scr {l : List Int} {a : Addr} (h : SqL g.K F a (l.map V.int)) : Rp g F (.scr l) (.ref a)
  | exc (n : Str) (a : Addr) : Rp g F (.exc n a) (.ref a)
  | clo {κ : Kl} {ds : List D} (h : F κ.c = some (LamX.CodeO κ.c κ.q)) (r : RpL g F ds κ.us) : Rp g F (.clo κ ds) (.ref κ.a)
inductive RpL (g : G) (F : Hp) : List D → List V → Prop
  | nil : RpL g F [] []
  | cons {d : D} {l : List D} {v : V} {vs : List V} (h : Rp g F d v) (r : RpL g F l vs) : RpL g F (d :: l) (v :: vs)
end

theorem sqT_same {K : PySem.W.Frag} {F F' : Hp} {a : Addr} {xs : List V} (e : Same F F') (h : SqT K F a xs) : SqT K F' a xs := by
  rcases h with (h | ⟨o, h⟩) | h
  · exact .inl (.inl (e _ _ h))
  · exact .inl (.inr ⟨o, e _ _ h⟩)
  · exact .inr h

mutual
theorem Rp.mono {g : G} {F F' : Hp} (e : Same F F') : ∀ {d : D} {v : V}, Rp g F d v → Rp g F' d v
  | _, _, .non => .non
  | _, _, .bl b => .bl b
  | _, _, .int i => .int i
  | _, _, .str x => .str x
  | _, _, .fn h => .fn h
  | _, _, .tup h r => .tup (sqT_same e h) (RpL.mono e r)
  | _, _, .lst h r => .lst (e _ _ h) (RpL.mono e r)
  | _, _, .scr h => .scr (e.seq h)
  | _, _, .exc n a => .exc n a
  | _, _, .clo h r => .clo (e _ _ h) (RpL.mono e r)
theorem RpL.mono {g : G} {F F' : Hp} (e : Same F F') : ∀ {l : List D} {vs : List V}, RpL g F l vs → RpL g F' l vs
  | _, _, .nil => .nil
  | _, _, .cons h r => .cons (Rp.mono e h) (RpL.mono e r)
end
theorem RpL.length {g : G} {F : Hp} : ∀ {l : List D} {vs : List V}, RpL g F l vs → l.length = vs.length
  | _, _, .nil => rfl
  | _, _, .cons _ r => by simp [RpL.length r]
theorem RpL.get {g : G} {F : Hp} : ∀ {l : List D} {vs : List V} {i : Nat} {d : D}, RpL g F l vs → l[i]? = some d → ∃ v, vs[i]? = some v ∧ Rp g F d v
  | _, _, _, _, .nil, e => by simp at e
  | _, _, 0, _, .cons h _, e => by simp at e; subst e; exact ⟨_, rfl, h⟩
  | _, _, i + 1, _, .cons _ r, e => by
    obtain ⟨v, h1, h2⟩ := RpL.get (i := i) r (by simpa using e)
    exact ⟨v, by simpa using h1, h2⟩
theorem RpL.get' {g : G} {F : Hp} : ∀ {l : List D} {vs : List V} {i : Nat} {v : V}, RpL g F l vs → vs[i]? = some v → ∃ d, l[i]? = some d ∧ Rp g F d v
  | _, _, _, _, .nil, e => by simp at e
  | _, _, 0, _, .cons h _, e => by simp at e; subst e; exact ⟨_, rfl, h⟩
  | _, _, i + 1, _, .cons _ r, e => by
    obtain ⟨v, h1, h2⟩ := RpL.get' (i := i) r (by simpa using e)
    exact ⟨v, by simpa using h1, h2⟩
theorem RpL.append {g : G} {F : Hp} : ∀ {l m : List D} {vs ws : List V}, RpL g F l vs → RpL g F m ws → RpL g F (l ++ m) (vs ++ ws)
  | _, _, _, _, .nil, s => s
  | _, _, _, _, .cons h r, s => .cons h (RpL.append r s)
theorem RpL.take {g : G} {F : Hp} : ∀ {l : List D} {vs : List V} (n : Nat), RpL g F l vs → RpL g F (l.take n) (vs.take n)
  | _, _, 0, _ => by simpa using RpL.nil
  | _, _, _ + 1, .nil => .nil
  | _, _, n + 1, .cons h r => .cons h (RpL.take n r)
theorem RpL.drop {g : G} {F : Hp} : ∀ {l : List D} {vs : List V} (n : Nat), RpL g F l vs → RpL g F (l.drop n) (vs.drop n)
  | _, _, 0, r => by simpa using r
  | _, _, _ + 1, .nil => .nil
  | _, _, n + 1, .cons _ r => by simpa using RpL.drop n r
theorem RpL.set {g : G} {F : Hp} {d : D} {v : V} (h : Rp g F d v) : ∀ {l : List D} {vs : List V} (n : Nat), RpL g F l vs → RpL g F (l.set n d) (vs.set n v)
  | _, _, _, .nil => .nil
  | _, _, 0, .cons _ r => .cons h r
  | _, _, n + 1, .cons q r => .cons q (RpL.set h n r)
theorem RpL.reverse {g : G} {F : Hp} : ∀ {l : List D} {vs : List V}, RpL g F l vs → RpL g F l.reverse vs.reverse
  | _, _, .nil => .nil
  | _, _, .cons h r => by
    rw [List.reverse_cons, List.reverse_cons]
    exact RpL.append (RpL.reverse r) (.cons h .nil)
theorem RpL.dropLast {g : G} {F : Hp} {l : List D} {vs : List V} (r : RpL g F l vs) : RpL g F l.dropLast vs.dropLast := by
  rw [List.dropLast_eq_take, List.dropLast_eq_take, r.length]
  exact r.take _
theorem RpL.rep {g : G} {F : Hp} {l : List D} {vs : List V} (r : RpL g F l vs) : ∀ k : Nat, RpL g F (List.replicate k l).flatten (List.replicate k vs).flatten
  | 0 => .nil
  | k + 1 => by
    rw [List.replicate_succ, List.replicate_succ, List.flatten_cons, List.flatten_cons]
    exact r.append (RpL.rep r k)

/-! ### slots -/
/-- an object that is changed in place -/
inductive DO where
  | lst (l : List D)
  | dic (kvs : List (Key × D))
inductive Cell where
  | un | val (d : D) | own (p : Bool) (o : DO)
abbrev Rho := List Cell
inductive Wv where
  | val (d : D) | bor (i : Nat) | new (o : DO)
structure Exn where
  cls : Str
  arg : Option (Str × D) := none
inductive Out (α : Type) where
  | ok (a : α) (ρ : Rho) | ex (e : Exn) (ρ : Rho) | bad
inductive SO where
  | nx (ρ : Rho) | rt (w : Wv) (ρ : Rho) | bk (ρ : Rho) | ct (ρ : Rho) | ex (e : Exn) (ρ : Rho) | bad
abbrev Ev := Rho → Out Wv
abbrev Sv := Rho → SO
abbrev Tv := Rho → Out Bool
abbrev Av := Rho → Out (List Wv)

/-- the keys with their values -/
def RpKV (g : G) (F : Hp) : List (Key × D) → List (Key × V) → Prop := Paired fun p q => p.1 = q.1 ∧ Rp g F p.2 q.2
/-- an object in place: its parts are of F -/
def RpO (g : G) (F H : Hp) (o : DO) (a : Addr) : Prop := match o with
  | .lst l => ∃ vs, H a = some (.lst vs) ∧ RpL g F l vs
  | .dic kvs => ∃ kws, H a = some (.dK kws) ∧ RpKV g F kvs kws
theorem RpO.mono {g : G} {F F' H H' : Hp} {o : DO} {a : Addr} (e : Same F F') (h : H' a = H a) (r : RpO g F H o a) : RpO g F' H' o a := by
  cases o with
  | lst l => obtain ⟨vs, h1, h2⟩ := r; exact ⟨vs, h.trans h1, h2.mono e⟩
  | dic kvs => obtain ⟨vs, h1, h2⟩ := r; exact ⟨vs, h.trans h1, Paired.mapP h2 fun a b z => ⟨z.1, z.2.mono e⟩⟩
theorem RpO.some {g : G} {F H : Hp} {o : DO} {a : Addr} (r : RpO g F H o a) : ∃ u, H a = some u ∧ ∀ ps, u ≠ HO.tbl ps := by
  cases o with
  | lst l => obtain ⟨vs, h1, _⟩ := r; exact ⟨_, h1, fun ps z => by cases z⟩
  | dic kvs => obtain ⟨vs, h1, _⟩ := r; exact ⟨_, h1, fun ps z => by cases z⟩

/-- what the run of one body keeps: B is not touched, F0 is what stood frozen at the entry -/
structure RC where
  B : Hp
  F0 : Hp
  anch : List (Nat × Addr)
def isOwn : Option Cell → Bool
  | some (.own _ _) => true
  | _ => false
structure Rel (g : G) (C : RC) (F H : Hp) (ρ : Rho) (σ : St) : Prop where
  len : ρ.length = σ.length
  sub : Same F H
  subB : Same C.B H
  grow : ∀ a o, F a = some o → C.F0 a = some o ∨ C.B a = none
  tab : LamX.Tabs g.T H
  noTF : ∀ a ps, F a ≠ some (.tbl ps)
  noTB : ∀ a ps, C.B a ≠ some (.tbl ps)
  val : ∀ (i : Nat) (d : D), ρ[i]? = some (.val d) → ∃ v, σ[i]? = some (some v) ∧ Rp g F d v
  own : ∀ (i : Nat) (p : Bool) (o : DO), ρ[i]? = some (.own p o) → ∃ a, σ[i]? = some (some (.ref a)) ∧ RpO g F H o a ∧ F a = none ∧ C.B a = none
  inj : ∀ (i j : Nat) (a : Addr), isOwn ρ[i]? = true → isOwn ρ[j]? = true → σ[i]? = some (some (.ref a)) → σ[j]? = some (some (.ref a)) → i = j
  anc : ∀ p ∈ C.anch, ∃ o, ρ[p.1]? = some (.own true o) ∧ σ[p.1]? = some (some (.ref p.2))

/-- what a value of an expression is -/
def RpW (g : G) (C : RC) (F H : Hp) (ρ : Rho) (σ : St) (w : Wv) (v : V) : Prop := match w with
  | .val d => Rp g F d v
  | .bor i => σ[i]? = some (some v)
  | .new o => ∃ a, v = .ref a ∧ RpO g F H o a ∧ F a = none ∧ C.B a = none ∧ ∀ i : Nat, isOwn ρ[i]? = true → σ[i]? ≠ some (some (.ref a))
def RpX (g : G) (F H : Hp) (e : Exn) (cls : Value) (d : Option Addr) : Prop :=
  ∃ C, g.mg e.cls = some (.ref C) ∧ cls = .ref C ∧ match e.arg with
    | none => d = none
    | some (f, x) => ∃ a v, d = some a ∧ H a = some (.xd [(f, v)]) ∧ Rp g F x v

def notNew : Wv → Bool
  | .new _ => false
  | _ => true
def post {α : Type} (g : G) (C : RC) (F : Hp) (σ : St) (Z : WX) (Q : α → Rho → Hp → Hp → Prop) : Out α → Prop
  | .ok w ρ => ∀ F' H', Same F F' → Rel g C F' H' ρ σ → Q w ρ F' H'
  | .ex e ρ => ∀ F' H' cls d, Same F F' → Rel g C F' H' ρ σ → RpX g F' H' e cls d → Z cls d σ H'
  | .bad => False
abbrev postE (g : G) (C : RC) (F : Hp) (σ : St) (Z : WX) (Q : VK) : Out Wv → Prop := post g C F σ Z fun w ρ F' H' => ∀ v, RpW g C F' H' ρ σ w v → Q v H'
abbrev postT (g : G) (C : RC) (F : Hp) (σ : St) (Z : WX) (Q : Bool → Hp → Prop) : Out Bool → Prop := post g C F σ Z fun b _ _ H' => Q b H'
abbrev postA (g : G) (C : RC) (F : Hp) (σ : St) (Z : WX) (Q : List V → Hp → Prop) : Out (List Wv) → Prop := post g C F σ Z fun ws ρ F' H' => ∀ vs, Paired (RpW g C F' H' ρ σ) ws vs → ws.all notNew = true → Q vs H'
def postS (g : G) (C : RC) (F : Hp) (Z : WX) (N : Ends) : SO → Prop
  | .nx ρ => ∀ F' H' σ', Same F F' → Rel g C F' H' ρ σ' → N.nx σ' H'
  | .rt w ρ => ∀ F' H' σ' v, Same F F' → Rel g C F' H' ρ σ' → RpW g C F' H' ρ σ' w v → N.rt v H'
  | .bk ρ => ∀ F' H' σ', Same F F' → Rel g C F' H' ρ σ' → N.bk σ' H'
  | .ct ρ => ∀ F' H' σ', Same F F' → Rel g C F' H' ρ σ' → N.ct σ' H'
  | .ex e ρ => ∀ F' H' σ' cls d, Same F F' → Rel g C F' H' ρ σ' → RpX g F' H' e cls d → Z cls d σ' H'
  | .bad => False
def tE (g : G) (Z : WX) (f : Ev) : TE := fun σ H Q => ∃ C F ρ, Rel g C F H ρ σ ∧ postE g C F σ Z Q (f ρ)
def tT (g : G) (Z : WX) (f : Tv) : TT := fun σ H Q => ∃ C F ρ, Rel g C F H ρ σ ∧ postT g C F σ Z Q (f ρ)
def tA (g : G) (Z : WX) (f : Av) : TA := fun σ H Q => ∃ C F ρ, Rel g C F H ρ σ ∧ postA g C F σ Z Q (f ρ)
def tS (g : G) (Z : WX) (f : Sv) : TS := fun N σ H => ∃ C F ρ, Rel g C F H ρ σ ∧ postS g C F Z N (f ρ)

theorem post.mono {α : Type} {g : G} {C : RC} {F F1 : Hp} {σ : St} {Z : WX} {Q : α → Rho → Hp → Hp → Prop} (e : Same F F1) : ∀ {o : Out α}, post g C F σ Z Q o → post g C F1 σ Z Q o
  | .ok _ _, h => fun F' H' s => h F' H' (e.trans s)
  | .ex _ _, h => fun F' H' c d s => h F' H' c d (e.trans s)
  | .bad, h => h
theorem postS.mono {g : G} {C : RC} {F F1 : Hp} {Z : WX} {N : Ends} (e : Same F F1) : ∀ {o : SO}, postS g C F Z N o → postS g C F1 Z N o
  | .nx _, h => fun F' H' v s => h F' H' v (e.trans s)
  | .rt _ _, h => fun F' H' σ v s => h F' H' σ v (e.trans s)
  | .bk _, h => fun F' H' v s => h F' H' v (e.trans s)
  | .ct _, h => fun F' H' v s => h F' H' v (e.trans s)
  | .ex _ _, h => fun F' H' σ c d s => h F' H' σ c d (e.trans s)
  | .bad, h => h

/-! ### the judgements -/
abbrev FE (g : G) (X : Cx) (Z : WX) (e : Expr) (f : Ev) : Prop := PE X e (tE g Z f)
abbrev FT (g : G) (X : Cx) (Z : WX) (e : Expr) (f : Tv) : Prop := PT X e (tT g Z f)
abbrev FW (g : G) (X : Cx) (Z : WX) (e : Expr) (f : Tv) : Prop := PW X e (tT g Z f)
abbrev FA (g : G) (X : Cx) (Z : WX) (es : List Expr) (f : Av) : Prop := PA X es (tA g Z f)
abbrev FS (g : G) (X : Cx) (Z : WX) (s : Stmt) (f : Sv) : Prop := PS X s (tS g Z f)
abbrev FSs (g : G) (X : Cx) (Z : WX) (s : List Stmt) (f : Sv) : Prop := PSs X s (tS g Z f)
theorem pe_imp {X : Cx} {e : Expr} {t t' : TE} (h : PE X e t) (i : ∀ σ H Q, t' σ H Q → t σ H Q) : PE X e t' := ⟨fun pins s σ H Q I q => h.run pins s σ H Q I (i σ H Q q)⟩
theorem pt_imp {X : Cx} {e : Expr} {t t' : TT} (h : PT X e t) (i : ∀ σ H Q, t' σ H Q → t σ H Q) : PT X e t' := ⟨fun pins s σ H Q I q => h.run pins s σ H Q I (i σ H Q q)⟩
theorem pw_imp {X : Cx} {e : Expr} {t t' : TT} (h : PW X e t) (i : ∀ σ H Q, t' σ H Q → t σ H Q) : PW X e t' := ⟨fun wh pins s σ H Q I q => h.run wh pins s σ H Q I (i σ H Q q)⟩
theorem pa_imp {X : Cx} {es : List Expr} {t t' : TA} (h : PA X es t) (i : ∀ σ H Q, t' σ H Q → t σ H Q) : PA X es t' := ⟨fun pos pins s σ H Q I q => h.run pos pins s σ H Q I (i σ H Q q)⟩
theorem ps_imp {X : Cx} {st : Stmt} {t t' : TS} (h : PS X st t) (i : ∀ N σ H, t' N σ H → t N σ H) : PS X st t' := ⟨fun pins s σ H N I q => h.run pins s σ H N I (i N σ H q)⟩
theorem pss_imp {X : Cx} {st : List Stmt} {t t' : TS} (h : PSs X st t) (i : ∀ N σ H, t' N σ H → t N σ H) : PSs X st t' := ⟨fun pins s σ H N I q => h.run pins s σ H N I (i N σ H q)⟩

/-! ### the state moves -/
section
variable {g : G} {C : RC} {F F' H H' : Hp} {ρ : Rho} {σ : St} {p : Addr} {o : HO}
theorem same_new (h : H p = none) : Same H (upd H p o) := fun b u e => by rw [upd_ne (ne_of_none e h)]; exact e
theorem tabs_same {T : List (Addr × Str)} (t : LamX.Tabs T H) (e : Same H H') : LamX.Tabs T H' := t.ext e
/-- the heap grows -/
theorem Rel.heap (R : Rel g C F H ρ σ) (e : Same H H') : Rel g C F H' ρ σ where
  len := R.len
  sub := R.sub.trans e
  subB := R.subB.trans e
  grow := R.grow
  tab := tabs_same R.tab e
  noTF := R.noTF
  noTB := R.noTB
  val := R.val
  own := fun i p o h => by
    obtain ⟨a, h1, h2, h3, h4⟩ := R.own i p o h
    obtain ⟨u, hu, _⟩ := h2.some
    exact ⟨a, h1, h2.mono (Same.refl F) ((e _ _ hu).trans hu.symm), h3, h4⟩
  inj := R.inj
  anc := R.anc
theorem Rel.alloc (R : Rel g C F H ρ σ) (h : H p = none) : Rel g C F (upd H p o) ρ σ := R.heap (same_new h)
theorem none_of_same (e : Same F H) (h : H p = none) : F p = none := by
  cases q : F p with
  | none => rfl
  | some u => rw [e _ _ q] at h; cases h
theorem Rel.owns (R : Rel g C F H ρ σ) {i : Nat} (h : isOwn ρ[i]? = true) : ∃ p o a, ρ[i]? = some (.own p o) ∧ σ[i]? = some (some (.ref a)) ∧ RpO g F H o a ∧ F a = none ∧ C.B a = none := by
  unfold isOwn at h
  split at h
  · rename_i pp oo e
    obtain ⟨a, h1, h2, h3, h4⟩ := R.own _ _ _ e
    exact ⟨pp, oo, a, e, h1, h2, h3, h4⟩
  · cases h
/-- an object that is no slot's own, nor kept from outside, is frozen -/
theorem Rel.freeze (R : Rel g C F H ρ σ) (h : H p = some o) (hF : F p = none) (hB : C.B p = none) (ho : ∀ ps, o ≠ .tbl ps) (hn : ∀ i : Nat, isOwn ρ[i]? = true → σ[i]? ≠ some (some (.ref p))) : Rel g C (upd F p o) H ρ σ where
  len := R.len
  sub := fun a u e => by
    by_cases ha : a = p
    · subst ha; rw [upd_same] at e; cases e; exact h
    · rw [upd_ne ha] at e; exact R.sub a u e
  subB := R.subB
  grow := fun a u e => by
    by_cases ha : a = p
    · subst ha; exact .inr hB
    · rw [upd_ne ha] at e; exact R.grow a u e
  tab := R.tab
  noTF := fun a ps e => by
    by_cases ha : a = p
    · subst ha; rw [upd_same] at e; cases e; exact ho ps rfl
    · rw [upd_ne ha] at e; exact R.noTF a ps e
  noTB := R.noTB
  val := fun i d e => by
    obtain ⟨v, h1, h2⟩ := R.val i d e
    exact ⟨v, h1, h2.mono (same_new hF)⟩
  own := fun i q u e => by
    obtain ⟨a, h1, h2, h3, h4⟩ := R.own i q u e
    refine ⟨a, h1, h2.mono (same_new hF) rfl, ?_, h4⟩
    have ha : a ≠ p := fun z => hn i (by rw [e]; rfl) (by rw [h1, z])
    rw [upd_ne ha]; exact h3
  inj := R.inj
  anc := R.anc
/-- a new object, frozen at once -/
theorem Rel.allocF (R : Rel g C F H ρ σ) (h : H p = none) (ho : ∀ ps, o ≠ .tbl ps) : Rel g C (upd F p o) (upd H p o) ρ σ :=
  (R.alloc h).freeze upd_same (none_of_same R.sub h) (none_of_same R.subB h) ho fun i hi e => by
    obtain ⟨_, _, a, _, h1, h2, _, _⟩ := R.owns hi
    obtain ⟨u, hu, _⟩ := h2.some
    rw [h1] at e; cases e
    rw [h] at hu; cases hu
theorem Rel.newAt (R : Rel g C F H ρ σ) (h : H p = none) : ∀ i : Nat, isOwn ρ[i]? = true → σ[i]? ≠ some (some (.ref p)) := fun i hi e => by
  obtain ⟨_, _, a, _, h1, h2, _, _⟩ := R.owns hi
  obtain ⟨u, hu, _⟩ := h2.some
  rw [h1] at e; cases e
  rw [h] at hu; cases hu
/-- a slot's own object is written -/
theorem Rel.write (R : Rel g C F H ρ σ) {i : Nat} {q : Bool} {u u' : DO} {a : Addr} (h : ρ[i]? = some (.own q u)) (ha : σ[i]? = some (some (.ref a))) (ho : ∀ ps, o ≠ .tbl ps) (r : RpO g F (upd H a o) u' a) : Rel g C F (upd H a o) (ρ.set i (.own q u')) σ := by
  have hi : i < ρ.length := (List.getElem?_eq_some_iff.mp h).1
  obtain ⟨a', h1, h2, h3, h4⟩ := R.own i q u h
  rw [ha] at h1; cases h1
  obtain ⟨z, hz, hzt⟩ := h2.some
  have ownset : ∀ j : Nat, isOwn (ρ.set i (.own q u'))[j]? = isOwn ρ[j]? := fun j => by
    by_cases hj : i = j
    · subst hj; rw [List.getElem?_set_self hi, h]; rfl
    · rw [List.getElem?_set_ne hj]
  refine ⟨by rw [List.length_set]; exact R.len, fun b v e => ?_, fun b v e => ?_, R.grow, ?_, R.noTF, R.noTB, fun j d e => ?_, fun j q2 w e => ?_, fun j k b e1 e2 => ?_, fun p hp => ?_⟩
  · rw [upd_ne (fun z => by rw [z, h3] at e; cases e)]; exact R.sub b v e
  · rw [upd_ne (fun z => by rw [z, h4] at e; cases e)]; exact R.subB b v e
  · intro p hp
    obtain ⟨ps, e1, e2, e3⟩ := R.tab p hp
    refine ⟨ps, ?_, e2, fun pos cv hc => ?_⟩
    · rw [upd_ne (fun y => by rw [y, hz] at e1; cases e1; exact hzt _ rfl)]; exact e1
    · obtain ⟨c, f1, f2⟩ := e3 pos cv hc
      refine ⟨c, f1, ?_⟩
      rw [upd_ne (fun y => ?_)]
      · exact f2
      · rw [y] at f2
        cases u with
        | lst l => obtain ⟨vs, g1, _⟩ := h2; rw [g1] at f2; unfold LamX.CodeO at f2; cases f2
        | dic l => obtain ⟨vs, g1, _⟩ := h2; rw [g1] at f2; unfold LamX.CodeO at f2; cases f2
  · by_cases hj : i = j
    · subst hj; rw [List.getElem?_set_self hi] at e; cases e
    · rw [List.getElem?_set_ne hj] at e; exact R.val j d e
  · by_cases hj : i = j
    · subst hj
      rw [List.getElem?_set_self hi] at e
      cases e
      exact ⟨a, ha, r, h3, h4⟩
    · rw [List.getElem?_set_ne hj] at e
      obtain ⟨b, b1, b2, b3, b4⟩ := R.own j q2 w e
      have hb : b ≠ a := fun z => hj (R.inj i j a (by rw [h]; rfl) (by rw [e]; rfl) ha (by rw [b1, z]))
      exact ⟨b, b1, b2.mono (Same.refl F) (upd_ne hb), b3, b4⟩
  · rw [ownset] at e1 e2
    exact R.inj j k b e1 e2
  · obtain ⟨w, e1, e2⟩ := R.anc p hp
    by_cases hj : i = p.1
    · subst hj
      rw [h] at e1; cases e1
      exact ⟨u', List.getElem?_set_self hi, e2⟩
    · exact ⟨w, by rw [List.getElem?_set_ne hj]; exact e1, e2⟩
/-- a slot is given a frozen value -/
theorem Rel.setV (R : Rel g C F H ρ σ) {i : Nat} {d : D} {v : V} (hi : i < ρ.length) (hc : ∀ u, ρ[i]? ≠ some (.own true u)) (r : Rp g F d v) : Rel g C F H (ρ.set i (.val d)) (σ.set i (some v)) := by
  have hi' : i < σ.length := by rw [← R.len]; exact hi
  refine ⟨by simp [R.len], R.sub, R.subB, R.grow, R.tab, R.noTF, R.noTB, fun j d' e => ?_, fun j q2 w e => ?_, fun j k b e1 e2 e3 e4 => ?_, fun p hp => ?_⟩
  · by_cases hj : i = j
    · subst hj
      rw [List.getElem?_set_self hi] at e; cases e
      exact ⟨v, List.getElem?_set_self hi', r⟩
    · rw [List.getElem?_set_ne hj] at e
      rw [List.getElem?_set_ne hj]; exact R.val j d' e
  · by_cases hj : i = j
    · subst hj; rw [List.getElem?_set_self hi] at e; cases e
    · rw [List.getElem?_set_ne hj] at e
      rw [List.getElem?_set_ne hj]; exact R.own j q2 w e
  · have nj : ∀ j : Nat, isOwn (ρ.set i (.val d))[j]? = true → i ≠ j := fun j e z => by
      subst z; rw [List.getElem?_set_self hi] at e; cases e
    have a1 := nj j e1
    have a2 := nj k e2
    rw [List.getElem?_set_ne a1] at e1 e3
    rw [List.getElem?_set_ne a2] at e2 e4
    exact R.inj j k b e1 e2 e3 e4
  · obtain ⟨w, e1, e2⟩ := R.anc p hp
    have hj : i ≠ p.1 := fun z => hc w (by rw [z]; exact e1)
    exact ⟨w, by rw [List.getElem?_set_ne hj]; exact e1, by rw [List.getElem?_set_ne hj]; exact e2⟩
/-- a slot is given an object of its own -/
theorem Rel.setN (R : Rel g C F H ρ σ) {i : Nat} {u : DO} {v : V} (hi : i < ρ.length) (hc : ∀ u, ρ[i]? ≠ some (.own true u)) (r : RpW g C F H ρ σ (.new u) v) : Rel g C F H (ρ.set i (.own false u)) (σ.set i (some v)) := by
  have hi' : i < σ.length := by rw [← R.len]; exact hi
  obtain ⟨a, rfl, r1, r2, r3, r4⟩ := r
  refine ⟨by simp [R.len], R.sub, R.subB, R.grow, R.tab, R.noTF, R.noTB, fun j d' e => ?_, fun j q2 w e => ?_, fun j k b e1 e2 e3 e4 => ?_, fun p hp => ?_⟩
  · by_cases hj : i = j
    · subst hj; rw [List.getElem?_set_self hi] at e; cases e
    · rw [List.getElem?_set_ne hj] at e
      rw [List.getElem?_set_ne hj]; exact R.val j d' e
  · by_cases hj : i = j
    · subst hj
      rw [List.getElem?_set_self hi] at e; cases e
      exact ⟨a, List.getElem?_set_self hi', r1, r2, r3⟩
    · rw [List.getElem?_set_ne hj] at e
      rw [List.getElem?_set_ne hj]; exact R.own j q2 w e
  · by_cases hj : i = j
    · by_cases hk : i = k
      · rw [← hj, ← hk]
      · subst hj
        rw [List.getElem?_set_self hi'] at e3
        rw [List.getElem?_set_ne hk] at e2 e4
        cases e3
        exact absurd e4 (r4 k e2)
    · by_cases hk : i = k
      · subst hk
        rw [List.getElem?_set_self hi'] at e4
        rw [List.getElem?_set_ne hj] at e1 e3
        cases e4
        exact absurd e3 (r4 j e1)
      · rw [List.getElem?_set_ne hj] at e1 e3
        rw [List.getElem?_set_ne hk] at e2 e4
        exact R.inj j k b e1 e2 e3 e4
  · obtain ⟨w, e1, e2⟩ := R.anc p hp
    have hj : i ≠ p.1 := fun z => hc w (by rw [z]; exact e1)
    exact ⟨w, by rw [List.getElem?_set_ne hj]; exact e1, by rw [List.getElem?_set_ne hj]; exact e2⟩
/-- a slot is forgotten -/
theorem Rel.setU (R : Rel g C F H ρ σ) {i : Nat} {v : Option V} (hc : ∀ u, ρ[i]? ≠ some (.own true u)) : Rel g C F H (ρ.set i .un) (σ.set i v) := by
  by_cases hi : i < ρ.length
  · refine ⟨by simp [R.len], R.sub, R.subB, R.grow, R.tab, R.noTF, R.noTB, fun j d' e => ?_, fun j q2 w e => ?_, fun j k b e1 e2 e3 e4 => ?_, fun p hp => ?_⟩
    · by_cases hj : i = j
      · subst hj; rw [List.getElem?_set_self hi] at e; cases e
      · rw [List.getElem?_set_ne hj] at e
        rw [List.getElem?_set_ne hj]; exact R.val j d' e
    · by_cases hj : i = j
      · subst hj; rw [List.getElem?_set_self hi] at e; cases e
      · rw [List.getElem?_set_ne hj] at e
        rw [List.getElem?_set_ne hj]; exact R.own j q2 w e
    · have nj : ∀ j : Nat, isOwn (ρ.set i .un)[j]? = true → i ≠ j := fun j e z => by
        subst z; rw [List.getElem?_set_self hi] at e; cases e
      have a1 := nj j e1
      have a2 := nj k e2
      rw [List.getElem?_set_ne a1] at e1 e3
      rw [List.getElem?_set_ne a2] at e2 e4
      exact R.inj j k b e1 e2 e3 e4
    · obtain ⟨w, e1, e2⟩ := R.anc p hp
      have hj : i ≠ p.1 := fun z => hc w (by rw [z]; exact e1)
      exact ⟨w, by rw [List.getElem?_set_ne hj]; exact e1, by rw [List.getElem?_set_ne hj]; exact e2⟩
  · rw [List.set_eq_of_length_le (by omega), List.set_eq_of_length_le (by rw [← R.len]; omega)]
    exact R
/-- a slot's own list is frozen -/
theorem Rel.fz (R : Rel g C F H ρ σ) {i : Nat} {l : List D} (h : ρ[i]? = some (.own false (.lst l))) : ∃ F' v, Same F F' ∧ σ[i]? = some (some v) ∧ Rp g F' (.lst l) v ∧ Rel g C F' H (ρ.set i (.val (.lst l))) σ := by
  have hi : i < ρ.length := (List.getElem?_eq_some_iff.mp h).1
  have hi' : i < σ.length := by rw [← R.len]; exact hi
  obtain ⟨a, h1, ⟨vs, h2, h2'⟩, h3, h4⟩ := R.own i _ _ h
  have R1 : Rel g C F H (ρ.set i .un) (σ.set i (some (.ref a))) := R.setU (fun u e => by rw [h] at e; cases e)
  have es : σ.set i (some (.ref a)) = σ := by
    apply List.ext_getElem?
    intro j
    by_cases hj : i = j
    · subst hj; rw [List.getElem?_set_self hi', h1]
    · rw [List.getElem?_set_ne hj]
  rw [es] at R1
  have R2 : Rel g C (upd F a (.lst vs)) H (ρ.set i .un) σ := R1.freeze h2 h3 h4 (fun ps z => by cases z) fun j hj e => by
    by_cases hij : i = j
    · subst hij; rw [List.getElem?_set_self hi] at hj; cases hj
    · rw [List.getElem?_set_ne hij] at hj
      exact hij (R.inj i j a (by rw [h]; rfl) hj h1 e)
  have rp : Rp g (upd F a (.lst vs)) (.lst l) (.ref a) := .lst upd_same (h2'.mono (same_new h3))
  have R3 := R2.setV (i := i) (d := .lst l) (v := .ref a) (by simpa using hi) (fun u e => by rw [List.getElem?_set_self hi] at e; cases e) rp
  rw [es, List.set_set] at R3
  exact ⟨_, .ref a, same_new h3, h1, rp, R3⟩
end
end FX
namespace FX
open PySem PySem.Spec PyProof.Rows L2

/-! ### values by the slots -/
def Wv.get (ρ : Rho) : Wv → Option D
  | .val d => some d
  | .bor i => match ρ[i]? with
    | some (.own _ (.lst l)) => some (.lst l)
    | some (.val d) => some d
    | _ => none
  | .new (.lst l) => some (.lst l)
  | .new _ => none
/-- the top object may stand in H, its parts in F -/
def RpT (g : G) (F H : Hp) (d : D) (v : V) : Prop := match d with
  | .lst l => ∃ a vs, v = .ref a ∧ H a = some (.lst vs) ∧ RpL g F l vs
  | d => Rp g F d v
theorem Rp.top {g : G} {F H : Hp} {d : D} {v : V} (e : Same F H) (r : Rp g F d v) : RpT g F H d v := by
  cases r with
  | lst h r => exact ⟨_, _, rfl, e _ _ h, r⟩
  | non => exact .non
  | bl b => exact .bl b
  | int b => exact .int b
  | str b => exact .str b
  | fn h => exact .fn h
  | tup h r => exact .tup h r
  | scr h => exact .scr h
  | exc n a => exact .exc n a
  | clo h r => exact .clo h r
/-- all of it in H -/
theorem RpT.all {g : G} {F H : Hp} {d : D} {v : V} (e : Same F H) (r : RpT g F H d v) : Rp g H d v := by
  cases d with
  | lst l => obtain ⟨a, vs, rfl, h, r⟩ := r; exact .lst h (r.mono e)
  | _ => exact Rp.mono e r
section
variable {g : G} {C : RC} {F H : Hp} {ρ : Rho} {σ : St}
theorem get_rp (R : Rel g C F H ρ σ) {w : Wv} {v : V} {d : D} (r : RpW g C F H ρ σ w v) (e : w.get ρ = some d) : RpT g F H d v := by
  cases w with
  | val d' =>
    cases e
    exact Rp.top R.sub r
  | bor i =>
    have r' : σ[i]? = some (some v) := r
    unfold Wv.get at e
    simp only at e
    split at e
    · rename_i p l h
      cases e
      obtain ⟨a, h1, ⟨vs, h2, h3⟩, _⟩ := R.own _ _ _ h
      rw [r'] at h1; cases h1
      exact ⟨a, vs, rfl, h2, h3⟩
    · rename_i d' h
      cases e
      obtain ⟨v', h1, h2⟩ := R.val _ _ h
      rw [r'] at h1; cases h1
      exact Rp.top R.sub h2
    · cases e
  | new o =>
    cases o with
    | lst l =>
      cases e
      obtain ⟨a, rfl, ⟨vs, h2, h3⟩, _⟩ := r
      exact ⟨a, vs, rfl, h2, h3⟩
    | dic l => cases e
theorem RpW.mono {F' H' : Hp} {ρ' : Rho} {w : Wv} {v : V} (e : Same F F') (n : notNew w = true) (r : RpW g C F H ρ σ w v) : RpW g C F' H' ρ' σ w v := by
  cases w with
  | val d => exact Rp.mono e r
  | bor i => exact r
  | new o => cases n
end

/-! ### one after another -/
def fzW : Wv → Option Wv
  | .new (.lst l) => some (.val (.lst l))
  | .new _ => none
  | w => some w
/-- f's value (a new list is frozen), then k -/
def bindG {β : Type} (f : Ev) (k : Wv → Rho → Out β) : Rho → Out β := fun ρ => match f ρ with
  | .ok w ρ' => (match fzW w with | some w' => k w' ρ' | none => .bad)
  | .ex e ρ' => .ex e ρ'
  | .bad => .bad
def bindS (f : Ev) (k : Wv → Sv) : Sv := fun ρ => match f ρ with
  | .ok w ρ' => (match fzW w with | some w' => k w' ρ' | none => .bad)
  | .ex e ρ' => .ex e ρ'
  | .bad => .bad
section
variable {g : G} {C : RC} {F H : Hp} {ρ : Rho} {σ : St} {Z : WX}
theorem frozen {w w' : Wv} {v : V} (R : Rel g C F H ρ σ) (r : RpW g C F H ρ σ w v) (e : fzW w = some w') : ∃ F', Same F F' ∧ Rel g C F' H ρ σ ∧ RpW g C F' H ρ σ w' v ∧ notNew w' = true := by
  cases w with
  | val d => cases e; exact ⟨F, Same.refl F, R, r, rfl⟩
  | bor i => cases e; exact ⟨F, Same.refl F, R, r, rfl⟩
  | new o =>
    cases o with
    | dic l => cases e
    | lst l =>
      cases e
      obtain ⟨a, rfl, ⟨vs, h2, h3⟩, h4, h5, h6⟩ := r
      exact ⟨upd F a (.lst vs), same_new h4, R.freeze h2 h4 h5 (fun ps z => by cases z) h6, .lst upd_same (h3.mono (same_new h4)), rfl⟩
theorem post_bind {β : Type} {f : Ev} {k : Wv → Rho → Out β} {Q : β → Rho → Hp → Hp → Prop} {Q1 : VK} (R : Rel g C F H ρ σ) (P : post g C F σ Z Q (bindG f k ρ))
    (h : ∀ F' H' ρ' w v, Same F F' → Rel g C F' H' ρ' σ → RpW g C F' H' ρ' σ w v → notNew w = true → post g C F' σ Z Q (k w ρ') → Q1 v H') : tE g Z f σ H Q1 := by
  refine ⟨C, F, ρ, R, ?_⟩
  unfold bindG at P
  cases e : f ρ with
  | bad => rw [e] at P; exact P
  | ex x ρ' => rw [e] at P; exact P
  | ok w ρ' =>
    rw [e] at P
    intro F' H' s R' v r
    cases e2 : fzW w with
    | none => simp only [e2] at P; exact P.elim
    | some w' =>
      simp only [e2] at P
      obtain ⟨F2, s2, R2, r2, n2⟩ := frozen R' r e2
      exact h F2 H' ρ' w' v (s.trans s2) R2 r2 n2 (P.mono (s.trans s2))
theorem postS_bind {f : Ev} {k : Wv → Sv} {N : Ends} {Q1 : VK} {Z' : WX} (R : Rel g C F H ρ σ) (P : postS g C F Z N (bindS f k ρ))
    (h : ∀ F' H' ρ' w v, Same F F' → Rel g C F' H' ρ' σ → RpW g C F' H' ρ' σ w v → notNew w = true → postS g C F' Z N (k w ρ') → Q1 v H') : tE g Z f σ H Q1 := by
  refine ⟨C, F, ρ, R, ?_⟩
  unfold bindS at P
  cases e : f ρ with
  | bad => rw [e] at P; exact P
  | ex x ρ' => rw [e] at P; exact fun F' H' c d s R' rx => P F' H' σ c d s R' rx
  | ok w ρ' =>
    rw [e] at P
    intro F' H' s R' v r
    cases e2 : fzW w with
    | none => simp only [e2] at P; exact P.elim
    | some w' =>
      simp only [e2] at P
      obtain ⟨F2, s2, R2, r2, n2⟩ := frozen R' r e2
      exact h F2 H' ρ' w' v (s.trans s2) R2 r2 n2 (P.mono (s.trans s2))
end

/-! ### names, constants -/
def cE (d : D) : Ev := fun ρ => .ok (.val d) ρ
def vE (i : Nat) : Ev := fun ρ => match ρ[i]? with
  | some (.val d) => .ok (.val d) ρ
  | some (.own _ _) => .ok (.bor i) ρ
  | _ => .bad
section
variable {g : G} {X : Cx} {Z : WX} {pos : Pos}
theorem fe_c {e : Expr} {d : D} {v : V} (h : PE X e (tC v)) (r : ∀ F, Rp g F d v) : FE g X Z e (cE d) := pe_imp h fun σ H Q ⟨C, F, ρ, R, P⟩ => P F H (Same.refl F) R v (r F)
theorem fe_int {i : Int} {j} : FE g X Z (.Constant (.int i) j pos) (cE (.int i)) := fe_c pe_int fun _ => .int i
theorem fe_bl {b : Bool} {j} : FE g X Z (.Constant (.bool b) j pos) (cE (.bl b)) := fe_c pe_bl fun _ => .bl b
theorem fe_non {j} : FE g X Z (.Constant .none j pos) (cE .non) := fe_c pe_non fun _ => .non
theorem fe_str {x : Str} {j} : FE g X Z (.Constant (.str x) j pos) (cE (.str x)) := fe_c pe_str fun _ => .str x
theorem fv (i : Nat) {x : Str} (hN : X.N[i]? = some x := by rfl) (hv : Vis X.env.scope x := by first | exact Or.inl rfl | exact Or.inr (Or.inl rfl) | exact Or.inr (Or.inr rfl)) (hd : (x == ("__debug__" : Str)) = false := by decide)
    (hcd : (x == ("__classdict__" : Str)) = false := by decide) : FE g X Z (.Name x pos) (vE i) := pe_imp (pe_var hN hv hd hcd) fun σ H Q ⟨C, F, ρ, R, P⟩ => by
  unfold vE at P
  cases e : ρ[i]? with
  | none => rw [e] at P; exact P.elim
  | some c =>
    rw [e] at P
    cases c with
    | un => exact P.elim
    | val d =>
      obtain ⟨v, h1, h2⟩ := R.val i d e
      exact ⟨v, h1, P F H (Same.refl F) R v h2⟩
    | own p o =>
      obtain ⟨a, h1, _⟩ := R.own i p o e
      exact ⟨.ref a, h1, P F H (Same.refl F) R (.ref a) h1⟩
/-- a module's constant -/
theorem fe_glob {x : Str} {d : D} {v : V} {u : Value} (hg : Gl X x) (hm : X.mg x = some u) (r : RelV v u) (rp : ∀ F, Rp g F d v) (hd : (x == ("__debug__" : Str)) = false := by decide) : FE g X Z (.Name x pos) (cE d) := fe_c (pe_glob hg hm r hd) rp
/-- a def or a class as a value -/
theorem fe_fn {x : Str} {a : Addr} (hg : Gl X x) (hm : X.mg x = some (.ref a)) (hG : g.mg = X.mg := by rfl) (hd : (x == ("__debug__" : Str)) = false := by decide) : FE g X Z (.Name x pos) (cE (.fn x)) :=
  fe_c (pe_glob (v := .ref a) hg hm rfl hd) fun _ => .fn (by rw [hG]; exact hm)
end

/-! ### operators -/
def lift1 (sem : D → Option Wv) (w : Wv) : Ev := fun ρ => match w.get ρ with
  | some d => (match sem d with | some w' => .ok w' ρ | none => .bad)
  | none => .bad
def lift2 (sem : D → D → Option Wv) (w1 w2 : Wv) : Ev := fun ρ => match w1.get ρ, w2.get ρ with
  | some d1, some d2 => (match sem d1 d2 with | some w' => .ok w' ρ | none => .bad)
  | _, _ => .bad
def binE (sem : D → D → Option Wv) (fa fb : Ev) : Ev := bindG fa fun w1 => bindG fb fun w2 => lift2 sem w1 w2
def unE (sem : D → Option Wv) (fa : Ev) : Ev := bindG fa (lift1 sem)
/-- the rule r serves what sem says -/
def SemR (g : G) (r : R2) (sem : D → D → Option Wv) : Prop := ∀ (C : RC) (F H : Hp) (ρ : Rho) (σ : St) (d1 d2 : D) (v1 v2 : V) (w : Wv) (Q : VK), Rel g C F H ρ σ → RpT g F H d1 v1 → RpT g F H d2 v2 → sem d1 d2 = some w →
  (∀ F' H', Same F F' → Rel g C F' H' ρ σ → ∀ v, RpW g C F' H' ρ σ w v → Q v H') → r v1 v2 H Q
def SemU (g : G) (r : V → Hp → VK → Prop) (sem : D → Option Wv) : Prop := ∀ (C : RC) (F H : Hp) (ρ : Rho) (σ : St) (d : D) (v1 : V) (w : Wv) (Q : VK), Rel g C F H ρ σ → RpT g F H d v1 → sem d = some w →
  (∀ F' H', Same F F' → Rel g C F' H' ρ σ → ∀ v, RpW g C F' H' ρ σ w v → Q v H') → r v1 H Q
section
variable {g : G} {C : RC} {F H : Hp} {ρ : Rho} {σ : St} {Z : WX} {r : R2} {sem : D → D → Option Wv}
theorem lift2_use (hs : SemR g r sem) {w1 w2 : Wv} {v1 v2 : V} {Q : VK} (R : Rel g C F H ρ σ) (r1 : RpW g C F H ρ σ w1 v1) (r2 : RpW g C F H ρ σ w2 v2) (P : postE g C F σ Z Q (lift2 sem w1 w2 ρ)) : r v1 v2 H Q := by
  unfold lift2 at P
  cases e1 : w1.get ρ with
  | none => simp only [e1] at P; exact P.elim
  | some d1 =>
    cases e2 : w2.get ρ with
    | none => simp only [e1, e2] at P; exact P.elim
    | some d2 =>
      cases e3 : sem d1 d2 with
      | none => simp only [e1, e2, e3] at P; exact P.elim
      | some w =>
        simp only [e1, e2, e3] at P
        exact hs C F H ρ σ d1 d2 v1 v2 w Q R (get_rp R r1 e1) (get_rp R r2 e2) e3 P
theorem lift1_use {r : V → Hp → VK → Prop} {sem : D → Option Wv} (hs : SemU g r sem) {w1 : Wv} {v1 : V} {Q : VK} (R : Rel g C F H ρ σ) (r1 : RpW g C F H ρ σ w1 v1) (P : postE g C F σ Z Q (lift1 sem w1 ρ)) : r v1 H Q := by
  unfold lift1 at P
  cases e1 : w1.get ρ with
  | none => simp only [e1] at P; exact P.elim
  | some d1 =>
    cases e3 : sem d1 with
    | none => simp only [e1, e3] at P; exact P.elim
    | some w =>
      simp only [e1, e3] at P
      exact hs C F H ρ σ d1 v1 w Q R (get_rp R r1 e1) e3 P
theorem binE_use (hs : SemR g r sem) {fa fb : Ev} {Q : VK} (h : tE g Z (binE sem fa fb) σ H Q) : tOp r (tE g Z fa) (tE g Z fb) σ H Q := by
  obtain ⟨C, F, ρ, R, P⟩ := h
  refine post_bind R P fun F1 H1 ρ1 w1 v1 s1 R1 r1 n1 P1 => ?_
  refine post_bind R1 P1 fun F2 H2 ρ2 w2 v2 s2 R2 r2 n2 P2 => ?_
  exact lift2_use hs R2 (r1.mono s2 n1) r2 P2
variable {X : Cx} {a b : Expr} {fa fb : Ev} {pos : Pos}
theorem fe_bin {op : Operator} (ho : OpR X (binaryOp op) r) (hs : SemR g r sem) (ha : FE g X Z a fa) (hb : FE g X Z b fb) : FE g X Z (.BinOp a op b pos) (binE sem fa fb) := pe_imp (pe_op ho ha hb) fun σ H Q h => binE_use hs h
theorem fe_cmp {op : CmpOp} (ho : OpR X (compareOp op) r) (hs : SemR g r sem) (ha : FE g X Z a fa) (hb : FE g X Z b fb) (hm : behindInMarks op b = false := by first | exact nomark _ | rfl) : FE g X Z (.Compare a [op] [b] pos) (binE sem fa fb) := pe_imp (pe_cmpR ho ha hb hm) fun σ H Q h => binE_use hs h
theorem fe_ix {fa fb : Ev} (hr : IxR X r) (hs : SemR g r sem) (ha : FE g X Z a fa) (hb : FE g X Z b fb) (hp : PlainIx b := by exact fun _ _ => rfl) : FE g X Z (.Subscript a b pos) (binE sem fa fb) := pe_imp (pe_ix hr ha hb hp) fun σ H Q h => binE_use hs h
theorem fe_un {op : UnaryOp} {r : V → Hp → VK → Prop} {sem : D → Option Wv} (ho : UnR X (unaryOp op) r) (hs : SemU g r sem) (ha : FE g X Z a fa) : FE g X Z (.UnaryOp op a pos) (unE sem fa) := pe_imp (pe_un ho ha) fun σ H Q ⟨C, F, ρ, R, P⟩ =>
  post_bind R P fun F1 H1 ρ1 w1 v1 s1 R1 r1 n1 P1 => lift1_use hs R1 r1 P1
end

/-! ### tests -/
def valT (f : Ev) : Tv := fun ρ => match f ρ with
  | .ok (.val (.bl b)) ρ' => .ok b ρ'
  | .ok _ _ => .bad
  | .ex e ρ' => .ex e ρ'
  | .bad => .bad
def bindT {β : Type} (f : Tv) (k : Bool → Rho → Out β) : Rho → Out β := fun ρ => match f ρ with
  | .ok b ρ' => k b ρ'
  | .ex e ρ' => .ex e ρ'
  | .bad => .bad
def bindTS (f : Tv) (k : Bool → Sv) : Sv := fun ρ => match f ρ with
  | .ok b ρ' => k b ρ'
  | .ex e ρ' => .ex e ρ'
  | .bad => .bad
def okT (b : Bool) : Tv := fun ρ => .ok b ρ
def andT (f h : Tv) : Tv := bindT f fun b => if b then h else okT false
def orT (f h : Tv) : Tv := bindT f fun b => if b then okT true else h
def notT (f : Tv) : Tv := bindT f fun b => okT (!b)
/-- a value that is a truth -/
def blE (k : Bool → Ev) (w : Wv) : Ev := match w with
  | .val (.bl b) => k b
  | _ => fun _ => .bad
def andE (f h : Ev) : Ev := bindG f (blE fun b => if b then h else cE (.bl false))
def orE (f h : Ev) : Ev := bindG f (blE fun b => if b then cE (.bl true) else h)
def notE (f : Ev) : Ev := bindG f (blE fun b => cE (.bl (!b)))
def ifE (c : Tv) (f h : Ev) : Ev := bindT c fun b => if b then f else h
section
variable {g : G} {C : RC} {F H : Hp} {ρ : Rho} {σ : St} {Z : WX} {X : Cx} {a b c : Expr} {fa fb : Ev} {pos : Pos} {ta tb : Tv} {rest : List Expr}
theorem postT_bind {β : Type} {f : Tv} {k : Bool → Rho → Out β} {Q : β → Rho → Hp → Hp → Prop} {Q1 : Bool → Hp → Prop} (R : Rel g C F H ρ σ) (P : post g C F σ Z Q (bindT f k ρ))
    (h : ∀ F' H' ρ' b, Same F F' → Rel g C F' H' ρ' σ → post g C F' σ Z Q (k b ρ') → Q1 b H') : tT g Z f σ H Q1 := by
  refine ⟨C, F, ρ, R, ?_⟩
  unfold bindT at P
  cases e : f ρ with
  | bad => rw [e] at P; exact P
  | ex x ρ' => rw [e] at P; exact P
  | ok w ρ' =>
    rw [e] at P
    exact fun F' H' s R' => h F' H' ρ' w s R' (P.mono s)
theorem postTS_bind {f : Tv} {k : Bool → Sv} {N : Ends} {Q1 : Bool → Hp → Prop} (R : Rel g C F H ρ σ) (P : postS g C F Z N (bindTS f k ρ))
    (h : ∀ F' H' ρ' b, Same F F' → Rel g C F' H' ρ' σ → postS g C F' Z N (k b ρ') → Q1 b H') : tT g Z f σ H Q1 := by
  refine ⟨C, F, ρ, R, ?_⟩
  unfold bindTS at P
  cases e : f ρ with
  | bad => rw [e] at P; exact P
  | ex x ρ' => rw [e] at P; exact fun F' H' c d s R' rx => P F' H' σ c d s R' rx
  | ok w ρ' =>
    rw [e] at P
    exact fun F' H' s R' => h F' H' ρ' w s R' (P.mono s)
/-- a test's value comes from an expression -/
theorem valT_use {f : Ev} {Q : Bool → Hp → Prop} (h : tT g Z (valT f) σ H Q) : tE g Z f σ H fun x H' => ∃ k, x = .bl k ∧ Q k H' := by
  obtain ⟨C, F, ρ, R, P⟩ := h
  refine ⟨C, F, ρ, R, ?_⟩
  unfold valT at P
  cases e : f ρ with
  | bad => rw [e] at P; exact P
  | ex x ρ' => rw [e] at P; exact P
  | ok w ρ' =>
    rw [e] at P
    intro F' H' s R' v r
    cases w with
    | bor i => exact P.elim
    | new o => exact P.elim
    | val d =>
      cases d with
      | bl b => cases r; exact ⟨b, rfl, P F' H' s R'⟩
      | _ => exact P.elim
theorem ft_val (h : FE g X Z a fa) (he : ∀ whole, isTrue a X.env whole = (do let v ← whole; standAt a.pos; holding [v] (truthy v)) := by intro _; rfl) : FT g X Z a (valT fa) := pt_imp (pt_val h he) fun σ H Q q => valT_use q
theorem ft_cmp {op : CmpOp} {r : R2} {sem : D → D → Option Wv} (ho : OpR X (compareOp op) r) (hs : SemR g r sem) (ha : FE g X Z a fa) (hb : FE g X Z b fb) (hm : behindInMarks op b = false := by first | exact nomark _ | rfl) : FT g X Z (.Compare a [op] [b] pos) (valT (binE sem fa fb)) :=
  pt_imp (pt_cmpR ho ha hb hm) fun σ H Q q => binE_use hs (valT_use q)
theorem ft_not (h : FT g X Z a ta) : FT g X Z (.UnaryOp .Not a pos) (notT ta) := pt_imp (pt_not h) fun σ H Q ⟨C, F, ρ, R, P⟩ =>
  postT_bind R P fun F1 H1 ρ1 b s1 R1 P1 => P1 F1 H1 (Same.refl F1) R1
theorem fw_and1 (h : FT g X Z a ta) : FW g X Z (.BoolOp .And [a] pos) ta := pw_and1 h
theorem fw_or1 (h : FT g X Z a ta) : FW g X Z (.BoolOp .Or [a] pos) ta := pw_or1 h
theorem fw_and (h1 : FT g X Z a ta) (h2 : FW g X Z (.BoolOp .And (b :: rest) pos) tb) : FW g X Z (.BoolOp .And (a :: b :: rest) pos) (andT ta tb) := pw_imp (pw_and h1 h2) fun σ H Q ⟨C, F, ρ, R, P⟩ =>
  postT_bind R P fun F1 H1 ρ1 b s1 R1 P1 => by
    cases b with
    | true => exact ⟨C, F1, ρ1, R1, P1⟩
    | false => exact P1 F1 H1 (Same.refl F1) R1
theorem fw_or (h1 : FT g X Z a ta) (h2 : FW g X Z (.BoolOp .Or (b :: rest) pos) tb) : FW g X Z (.BoolOp .Or (a :: b :: rest) pos) (orT ta tb) := pw_imp (pw_or h1 h2) fun σ H Q ⟨C, F, ρ, R, P⟩ =>
  postT_bind R P fun F1 H1 ρ1 b s1 R1 P1 => by
    cases b with
    | false => exact ⟨C, F1, ρ1, R1, P1⟩
    | true => exact P1 F1 H1 (Same.refl F1) R1
theorem ft_w (h : FW g X Z a ta) : FT g X Z a ta := PW.pt h
theorem blE_use {k : Bool → Ev} {w : Wv} {v : V} {Q : VK} (r : RpW g C F H ρ σ w v) (P : postE g C F σ Z Q (blE k w ρ)) : ∃ b, v = .bl b ∧ postE g C F σ Z Q (k b ρ) := by
  unfold blE at P
  cases w with
  | bor i => exact P.elim
  | new o => exact P.elim
  | val d =>
    cases d with
    | bl b => cases r; exact ⟨b, rfl, P⟩
    | _ => exact P.elim
theorem fe_one {op} (h : FE g X Z a fa) : FE g X Z (.BoolOp op [a] pos) fa := pe_one h
theorem fe_and (h1 : FE g X Z a fa) (h2 : FE g X Z (.BoolOp .And (b :: rest) pos) fb) : FE g X Z (.BoolOp .And (a :: b :: rest) pos) (andE fa fb) := pe_imp (pe_and h1 h2) fun σ H Q ⟨C, F, ρ, R, P⟩ =>
  post_bind R P fun F1 H1 ρ1 w v s1 R1 r1 n1 P1 => by
    obtain ⟨c, rfl, P2⟩ := blE_use r1 P1
    refine ⟨c, rfl, ?_⟩
    cases c with
    | true => exact ⟨C, F1, ρ1, R1, P2⟩
    | false => exact P2 F1 H1 (Same.refl F1) R1 _ (.bl false)
theorem fe_or (h1 : FE g X Z a fa) (h2 : FE g X Z (.BoolOp .Or (b :: rest) pos) fb) : FE g X Z (.BoolOp .Or (a :: b :: rest) pos) (orE fa fb) := pe_imp (pe_or h1 h2) fun σ H Q ⟨C, F, ρ, R, P⟩ =>
  post_bind R P fun F1 H1 ρ1 w v s1 R1 r1 n1 P1 => by
    obtain ⟨c, rfl, P2⟩ := blE_use r1 P1
    refine ⟨c, rfl, ?_⟩
    cases c with
    | false => exact ⟨C, F1, ρ1, R1, P2⟩
    | true => exact P2 F1 H1 (Same.refl F1) R1 _ (.bl true)
theorem fe_not (h1 : FE g X Z a fa) : FE g X Z (.UnaryOp .Not a pos) (notE fa) := pe_imp (pe_not h1) fun σ H Q ⟨C, F, ρ, R, P⟩ =>
  post_bind R P fun F1 H1 ρ1 w v s1 R1 r1 n1 P1 => by
    obtain ⟨c, rfl, P2⟩ := blE_use r1 P1
    exact ⟨c, rfl, P2 F1 H1 (Same.refl F1) R1 _ (.bl (!c))⟩
theorem fe_if (hc : FT g X Z c ta) (ha : FE g X Z a fa) (hb : FE g X Z b fb) : FE g X Z (.IfExp c a b pos) (ifE ta fa fb) := pe_imp (pe_ifExp hc ha hb) fun σ H Q ⟨C, F, ρ, R, P⟩ =>
  postT_bind R P fun F1 H1 ρ1 c s1 R1 P1 => by
    cases c with
    | true => exact ⟨C, F1, ρ1, R1, P1⟩
    | false => exact ⟨C, F1, ρ1, R1, P1⟩
end

/-! ### several expressions; displays -/
def consA (f : Ev) (fs : Av) : Av := bindG f fun w => fun ρ => match fs ρ with
  | .ok ws ρ' => .ok (w :: ws) ρ'
  | .ex e ρ' => .ex e ρ'
  | .bad => .bad
def nilA : Av := fun ρ => .ok [] ρ
def bindA {β : Type} (f : Av) (k : List Wv → Rho → Out β) : Rho → Out β := fun ρ => match f ρ with
  | .ok ws ρ' => k ws ρ'
  | .ex e ρ' => .ex e ρ'
  | .bad => .bad
/-- a value is taken into another: a slot's own list is frozen -/
def grab (w : Wv) (ρ : Rho) : Option (D × Rho) := match w with
  | .val d => some (d, ρ)
  | .bor i => match ρ[i]? with
    | some (.own false (.lst l)) => some (.lst l, ρ.set i (.val (.lst l)))
    | some (.val d) => some (d, ρ)
    | _ => none
  | .new _ => none
def grabs : List Wv → Rho → Option (List D × Rho)
  | [], ρ => some ([], ρ)
  | w :: ws, ρ => match grab w ρ with
    | some (d, ρ1) => (match grabs ws ρ1 with | some (ds, ρ2) => some (d :: ds, ρ2) | none => none)
    | none => none
def tupE (fs : Av) : Ev := bindA fs fun ws ρ => if ws.length ≤ sizeLine then (match grabs ws ρ with | some (ds, ρ') => .ok (.val (.tup ds)) ρ' | none => .bad) else .bad
def lstE (fs : Av) : Ev := bindA fs fun ws ρ => if ws.length ≤ sizeLine then (match grabs ws ρ with | some (ds, ρ') => .ok (.new (.lst ds)) ρ' | none => .bad) else .bad
section
variable {g : G} {C : RC} {F H : Hp} {ρ ρ' : Rho} {σ : St} {Z : WX} {X : Cx} {e : Expr} {es : List Expr} {fa fb : Ev} {fs : Av} {pos : Pos}
theorem grab_ok {w : Wv} {v : V} {d : D} (R : Rel g C F H ρ σ) (r : RpW g C F H ρ σ w v) (e : grab w ρ = some (d, ρ')) : ∃ F', Same F F' ∧ Rel g C F' H ρ' σ ∧ Rp g F' d v := by
  unfold grab at e
  cases w with
  | val d' => cases e; exact ⟨F, Same.refl F, R, r⟩
  | new o => cases e
  | bor i =>
    have r' : σ[i]? = some (some v) := r
    simp only at e
    split at e
    · rename_i l h
      cases e
      obtain ⟨F', v', s, h1, h2, h3⟩ := R.fz h
      rw [r'] at h1; cases h1
      exact ⟨F', s, h3, h2⟩
    · rename_i d' h
      cases e
      obtain ⟨v', h1, h2⟩ := R.val _ _ h
      rw [r'] at h1; cases h1
      exact ⟨F, Same.refl F, R, h2⟩
    · cases e
theorem paired_mono {F' H' : Hp} {ws : List Wv} {vs : List V} (s : Same F F') (n : ws.all notNew = true) (rs : Paired (RpW g C F H ρ σ) ws vs) : Paired (RpW g C F' H' ρ' σ) ws vs := by
  induction rs with
  | nil => exact .nil
  | cons a t ih =>
    simp only [List.all_cons, Bool.and_eq_true] at n
    exact .cons (a.mono s n.1) (ih n.2)
theorem grabs_ok : ∀ {ws : List Wv} {vs : List V} {ds : List D} {ρ ρ' : Rho} {F : Hp}, Rel g C F H ρ σ → Paired (RpW g C F H ρ σ) ws vs → ws.all notNew = true → grabs ws ρ = some (ds, ρ') → ∃ F', Same F F' ∧ Rel g C F' H ρ' σ ∧ RpL g F' ds vs
  | [], _, _, _, _, F, R, .nil, _, e => by cases e; exact ⟨F, Same.refl F, R, .nil⟩
  | w :: ws, _, ds, ρ, ρ', F, R, .cons r rs, n, e => by
    unfold grabs at e
    simp only [List.all_cons, Bool.and_eq_true] at n
    cases e1 : grab w ρ with
    | none => rw [e1] at e; cases e
    | some q =>
      obtain ⟨d, ρ1⟩ := q
      rw [e1] at e
      simp only at e
      cases e2 : grabs ws ρ1 with
      | none => rw [e2] at e; cases e
      | some q =>
        obtain ⟨ds', ρ2⟩ := q
        rw [e2] at e
        cases e
        obtain ⟨F1, s1, R1, h1⟩ := grab_ok R r e1
        have rs' := paired_mono (H' := H) (ρ' := ρ1) s1 n.2 rs
        obtain ⟨F2, s2, R2, h2⟩ := grabs_ok R1 rs' n.2 e2
        exact ⟨F2, s1.trans s2, R2, .cons (h1.mono s2) h2⟩
theorem postA_bind {β : Type} {f : Av} {k : List Wv → Rho → Out β} {Q : β → Rho → Hp → Hp → Prop} {Q1 : List V → Hp → Prop} (R : Rel g C F H ρ σ) (P : post g C F σ Z Q (bindA f k ρ))
    (h : ∀ F' H' ρ' ws vs, Same F F' → Rel g C F' H' ρ' σ → Paired (RpW g C F' H' ρ' σ) ws vs → ws.all notNew = true → post g C F' σ Z Q (k ws ρ') → Q1 vs H') : tA g Z f σ H Q1 := by
  refine ⟨C, F, ρ, R, ?_⟩
  unfold bindA at P
  cases e : f ρ with
  | bad => rw [e] at P; exact P
  | ex x ρ' => rw [e] at P; exact P
  | ok w ρ' =>
    rw [e] at P
    exact fun F' H' s R' vs rs n => h F' H' ρ' w vs s R' rs n (P.mono s)
theorem fa_nil : FA g X Z [] nilA := pa_imp pa_nil fun σ H Q ⟨C, F, ρ, R, P⟩ => P F H (Same.refl F) R [] .nil rfl
theorem fa_cons (ha : FE g X Z e fa) (hr : FA g X Z es fs) (hs : starEach (e :: es) X.env = (false, eval e X.env) :: starEach es X.env := by rfl) : FA g X Z (e :: es) (consA fa fs) := pa_imp (pa_cons ha hr hs) fun σ H Q ⟨C, F, ρ, R, P⟩ =>
  post_bind R P fun F1 H1 ρ1 w v s1 R1 r1 n1 P1 => by
    refine ⟨C, F1, ρ1, R1, ?_⟩
    cases e1 : fs ρ1 with
    | bad => rw [e1] at P1; exact P1
    | ex x ρ' => rw [e1] at P1; exact P1
    | ok ws ρ' =>
      rw [e1] at P1
      exact fun F' H' s R' vs rs n => P1 F' H' s R' (v :: vs) (.cons (r1.mono s n1) rs) (by simp [n1, n])
theorem paired_length {α β : Type} {p : α → β → Prop} {as : List α} {bs : List β} (h : Paired p as bs) : as.length = bs.length := by
  induction h with
  | nil => rfl
  | cons _ _ ih => simp [ih]
theorem fe_tup {x1} (h : FA g X Z es fs) : FE g X Z (.Tuple es x1 pos) (tupE fs) := pe_imp (pe_tup h) fun σ H Q ⟨C, F, ρ, R, P⟩ =>
  postA_bind R P fun F1 H1 ρ1 ws vs s1 R1 rs n P1 => by
    by_cases hz : ws.length ≤ sizeLine
    · simp only [hz, if_true] at P1
      refine ⟨by rw [← paired_length rs]; exact hz, fun p hp => ?_⟩
      cases e1 : grabs ws ρ1 with
      | none => rw [e1] at P1; exact P1.elim
      | some q =>
        obtain ⟨ds, ρ2⟩ := q
        rw [e1] at P1
        obtain ⟨F2, s2, R2, h2⟩ := grabs_ok R1 rs n e1
        have R3 := R2.allocF (o := .tup vs) hp (fun ps z => by cases z)
        have hF2 : F2 p = none := none_of_same R2.sub hp
        exact P1 _ _ (s2.trans (same_new hF2)) R3 (.ref p) (.tup (.inl (.inl upd_same)) (h2.mono (same_new hF2)))
    · simp only [hz, if_false] at P1
      exact P1.elim
theorem fe_lst (h : FA g X Z es fs) : FE g X Z (.List es pos) (lstE fs) := pe_imp (pe_lst h) fun σ H Q ⟨C, F, ρ, R, P⟩ =>
  postA_bind R P fun F1 H1 ρ1 ws vs s1 R1 rs n P1 => by
    by_cases hz : ws.length ≤ sizeLine
    · simp only [hz, if_true] at P1
      refine ⟨by rw [← paired_length rs]; exact hz, fun p hp => ?_⟩
      cases e1 : grabs ws ρ1 with
      | none => rw [e1] at P1; exact P1.elim
      | some q =>
        obtain ⟨ds, ρ2⟩ := q
        rw [e1] at P1
        obtain ⟨F2, s2, R2, h2⟩ := grabs_ok R1 rs n e1
        have hF2 : F2 p = none := none_of_same R2.sub hp
        exact P1 _ _ s2 (R2.alloc hp) (.ref p) ⟨p, rfl, ⟨vs, upd_same, h2⟩, hF2, none_of_same R2.subB hp, R2.newAt hp⟩
    · simp only [hz, if_false] at P1
      exact P1.elim
end
end FX
namespace FX
open PySem PySem.Spec PyProof.Rows L2

theorem Rel.newTup {g : G} {C : RC} {F H : Hp} {ρ : Rho} {σ : St} {p : Addr} {l : List D} {vs : List V} (R : Rel g C F H ρ σ) (hp : H p = none) (rs : RpL g F l vs) :
    ∃ F', Same F F' ∧ Rel g C F' (upd H p (.tup vs)) ρ σ ∧ Rp g F' (.tup l) (.ref p) := by
  have hF2 : F p = none := none_of_same R.sub hp
  exact ⟨_, same_new hF2, R.allocF hp (fun ps z => by cases z), .tup (.inl (.inl upd_same)) (rs.mono (same_new hF2))⟩
theorem Rel.newLst {g : G} {C : RC} {F H : Hp} {ρ : Rho} {σ : St} {p : Addr} {l : List D} {vs : List V} (R : Rel g C F H ρ σ) (hp : H p = none) (rs : RpL g F l vs) :
    Rel g C F (upd H p (.lst vs)) ρ σ ∧ RpW g C F (upd H p (.lst vs)) ρ σ (.new (.lst l)) (.ref p) :=
  ⟨R.alloc hp, p, rfl, ⟨vs, upd_same, rs⟩, none_of_same R.sub hp, none_of_same R.subB hp, R.newAt hp⟩

/-! ### data for == -/
mutual
def D.py : D → PyData
  | .non => .none
  | .bl b => .bool b
  | .int i => .int i
  | .str x => .str x
  | .fn _ => .none
  | .exc _ _ => .none
  | .clo _ _ => .none
  | .tup l => .tuple (D.pyL l)
  | .lst l => .list (D.pyL l)
  | .scr l => .list (l.map .int)
def D.pyL : List D → List PyData
  | [] => []
  | d :: l => d.py :: D.pyL l
end
mutual
/-- plain data, its texts well made, not deeper than n -/
def D.ok : Nat → D → Bool
  | _, .non => true
  | _, .bl _ => true
  | _, .int _ => true
  | _, .str x => PyData.strOk x
  | _, .fn _ => false
  | 0, .tup _ => false
  | n + 1, .tup l => D.okL n l
  | 0, .lst _ => false
  | n + 1, .lst l => D.okL n l
  | _, .scr _ => false
  | _, .exc _ _ => false
  | _, .clo _ _ => false
def D.okL : Nat → List D → Bool
  | _, [] => true
  | n, d :: l => D.ok n d && D.okL n l
end
mutual
theorem D.ok_lay : ∀ (n : Nat) (d : D), d.ok n = true → d.py.canLay0 = true ∧ d.py.depth ≤ n
  | _, .non, _ => by simp [D.py, PyData.canLay0, PyData.depth]
  | _, .bl b, _ => by simp [D.py, PyData.canLay0, PyData.depth]
  | _, .int i, _ => by simp [D.py, PyData.canLay0, PyData.depth]
  | _, .str x, h => by
    have h' : PyData.strOk x = true := by simpa [D.ok] using h
    simp [D.py, PyData.canLay0, PyData.depth, h']
  | _, .fn _, h => by simp [D.ok] at h
  | 0, .tup _, h => by simp [D.ok] at h
  | n + 1, .tup l, h => by
    have q := D.ok_layL n l (by simpa [D.ok] using h)
    simp [D.py, PyData.canLay0, PyData.depth, q.1, q.2]
  | 0, .lst _, h => by simp [D.ok] at h
  | n + 1, .lst l, h => by
    have q := D.ok_layL n l (by simpa [D.ok] using h)
    simp [D.py, PyData.canLay0, PyData.depth, q.1, q.2]
  | _, .scr _, h => by simp [D.ok] at h
  | _, .exc _ _, h => by simp [D.ok] at h
  | _, .clo _ _, h => by simp [D.ok] at h
theorem D.ok_layL : ∀ (n : Nat) (l : List D), D.okL n l = true → PyData.canLayAll0 (D.pyL l) = true ∧ PyData.depthAll (D.pyL l) ≤ n
  | _, [], _ => by simp [D.pyL, PyData.canLayAll0, PyData.depthAll]
  | n, d :: l, h => by
    have h' : d.ok n = true ∧ D.okL n l = true := by simpa [D.okL] using h
    have q1 := D.ok_lay n d h'.1
    have q2 := D.ok_layL n l h'.2
    simp [D.pyL, PyData.canLayAll0, PyData.depthAll, q1.1, q1.2, q2.1, q2.2]
    omega
end
theorem D.shaped {d : D} (h : d.ok 40 = true) : SeqAt.shaped d.py = true := by
  have q := D.ok_lay 40 d h
  unfold SeqAt.shaped
  simp [q.1]
  omega
mutual
theorem D.dp {g : G} {F : Hp} : ∀ {d : D} {v : V} {n : Nat}, d.ok n = true → Rp g F d v → Dp g.K F v d.py
  | .non, _, _, _, .non => .non
  | .bl b, _, _, _, .bl _ => .bl b
  | .int i, _, _, _, .int _ => .int i
  | .str x, _, _, _, .str _ => .str x
  | .fn _, _, _, h, _ => by simp [D.ok] at h
  | .scr _, _, _, h, _ => by simp [D.ok] at h
  | .exc _ _, _, _, h, _ => by simp [D.ok] at h
  | .clo _ _, _, _, h, _ => by simp [D.ok] at h
  | .tup l, _, 0, h, _ => by simp [D.ok] at h
  | .lst l, _, 0, h, _ => by simp [D.ok] at h
  | .tup l, _, n + 1, h, .tup hs r => .tup hs (D.dpL (by simpa [D.ok] using h) r)
  | .lst l, _, n + 1, h, .lst hs r => .lst (.inl (.inl hs)) (D.dpL (by simpa [D.ok] using h) r)
theorem D.dpL {g : G} {F : Hp} : ∀ {l : List D} {vs : List V} {n : Nat}, D.okL n l = true → RpL g F l vs → DpAll g.K F vs (D.pyL l)
  | [], _, _, _, .nil => .nil
  | d :: l, _, n, h, .cons r rs => by
    have h' : d.ok n = true ∧ D.okL n l = true := by simpa [D.okL] using h
    exact .cons (D.dp h'.1 r) (D.dpL h'.2 rs)
end
def D.eqv (d e : D) : Bool := PyData.eqv d.py e.py
def D.scalar : D → D → Bool
  | .int _, .int _ => true
  | .str _, .str _ => true
  | .bl _, .bl _ => true
  | .non, .non => true
  | _, _ => false
def eqD (d e : D) : Option Wv := if D.scalar d e || (d.ok 40 && e.ok 40) then some (.val (.bl (D.eqv d e))) else none
def neD (d e : D) : Option Wv := if D.scalar d e || (d.ok 40 && e.ok 40) then some (.val (.bl (!D.eqv d e))) else none
def rEqX (K : PySem.W.Frag) : R2 := fun x y H Q => rEq x y H Q ∨ rEqD K x y H Q
def rNeX (K : PySem.W.Frag) : R2 := fun x y H Q => rNe x y H Q ∨ rNeD K x y H Q
theorem op_eqX {X : Cx} (hu : X.A.units + 64 < cLine) : OpR X (compareOp .Eq) (rEqX X.K) := op_eq.or (op_eqD hu)
theorem op_neX {X : Cx} (hu : X.A.units + 64 < cLine) : OpR X (compareOp .NotEq) (rNeX X.K) := op_ne.or (op_neD hu)
section
variable {g : G}
theorem scalar_eqv {d e : D} {v w : V} {F : Hp} (h : D.scalar d e = true) (r1 : Rp g F d v) (r2 : Rp g F e w) : scal v w = true ∧ decide (v = w) = D.eqv d e := by
  cases r1 <;> cases r2 <;> first
    | (simp [D.scalar] at h; done)
    | (refine ⟨rfl, ?_⟩; simp [D.eqv, D.py, PyData.eqv, dec_int, dec_bl, dec_str]; try rfl)
theorem rp_of_top {F H : Hp} {d : D} {v : V} (e : Same F H) (r : RpT g F H d v) : Rp g H d v := r.all e
theorem sr_eq : SemR g (rEqX g.K) eqD := by
  intro C F H ρ σ d1 d2 v1 v2 w Q R r1 r2 e P
  have q1 := r1.all R.sub
  have q2 := r2.all R.sub
  unfold eqD at e
  split at e
  · rename_i hc
    cases e
    have fin := P F H (Same.refl F) R (.bl (D.eqv d1 d2)) (.bl _)
    rcases Bool.or_eq_true_iff.mp hc with hs | hp
    · obtain ⟨a, b⟩ := scalar_eqv hs q1 q2
      exact .inl ⟨a, by rw [b]; exact fin⟩
    · obtain ⟨h1, h2⟩ := Bool.and_eq_true_iff.mp hp
      exact .inr ⟨d1.py, d2.py, D.dp h1 q1, D.dp h2 q2, D.shaped h1, D.shaped h2, fin⟩
  · cases e
theorem sr_ne : SemR g (rNeX g.K) neD := by
  intro C F H ρ σ d1 d2 v1 v2 w Q R r1 r2 e P
  have q1 := r1.all R.sub
  have q2 := r2.all R.sub
  unfold neD at e
  split at e
  · rename_i hc
    cases e
    have fin := P F H (Same.refl F) R (.bl (!D.eqv d1 d2)) (.bl _)
    rcases Bool.or_eq_true_iff.mp hc with hs | hp
    · obtain ⟨a, b⟩ := scalar_eqv hs q1 q2
      exact .inl ⟨a, by rw [b]; exact fin⟩
    · obtain ⟨h1, h2⟩ := Bool.and_eq_true_iff.mp hp
      exact .inr ⟨d1.py, d2.py, D.dp h1 q1, D.dp h2 q2, D.shaped h1, D.shaped h2, fin⟩
  · cases e

/-! ### arithmetic -/
abbrev vI (i : Int) : Option Wv := some (.val (.int i))
abbrev vB (b : Bool) : Option Wv := some (.val (.bl b))
def cmpD (p : Int → Int → Bool) : D → D → Option Wv
  | .int i, .int j => vB (p i j)
  | _, _ => none
abbrev ltD := cmpD fun i j => decide (i < j)
abbrev leD := cmpD fun i j => decide (i ≤ j)
abbrev gtD := cmpD fun i j => decide (j < i)
abbrev geD := cmpD fun i j => decide (j ≤ i)
theorem sr_cmp {p : Int → Int → Bool} : SemR g (rI0 fun i j => .bl (p i j)) (cmpD p) := by
  intro C F H ρ σ d1 d2 v1 v2 w Q R r1 r2 e P
  cases d1 <;> cases d2 <;> first | (cases e; done) | skip
  cases r1; cases r2; cases e
  exact ⟨_, _, rfl, rfl, P F H (Same.refl F) R _ (.bl _)⟩
def subD : D → D → Option Wv
  | .int i, .int j => vI (i - j)
  | _, _ => none
theorem sr_sub : SemR g (rI0 fun i j => .int (i - j)) subD := by
  intro C F H ρ σ d1 d2 v1 v2 w Q R r1 r2 e P
  cases d1 <;> cases d2 <;> first | (cases e; done) | skip
  cases r1; cases r2; cases e
  exact ⟨_, _, rfl, rfl, P F H (Same.refl F) R _ (.int _)⟩
def modD : D → D → Option Wv
  | .int i, .int j => if 0 < j then vI (i % j) else none
  | _, _ => none
theorem sr_mod : SemR g (rI (fun _ j => 0 < j) fun i j => .int (i % j)) modD := by
  intro C F H ρ σ d1 d2 v1 v2 w Q R r1 r2 e P
  cases d1 <;> cases d2 <;> first | (cases e; done) | skip
  simp only [modD] at e
  split at e
  · rename_i hc
    cases r1; cases r2; cases e
    exact ⟨_, _, rfl, rfl, hc, P F H (Same.refl F) R _ (.int _)⟩
  · cases e
def fdivD : D → D → Option Wv
  | .int i, .int j => if 0 < j ∧ j.natAbs.log2 < 9000 then vI (i / j) else none
  | _, _ => none
theorem sr_fdiv : SemR g (rI CDivW fun i j => .int (i / j)) fdivD := by
  intro C F H ρ σ d1 d2 v1 v2 w Q R r1 r2 e P
  cases d1 <;> cases d2 <;> first | (cases e; done) | skip
  simp only [fdivD] at e
  split at e
  · rename_i hc
    cases r1; cases r2; cases e
    exact ⟨_, _, rfl, rfl, hc, P F H (Same.refl F) R _ (.int _)⟩
  · cases e
def powD : D → D → Option Wv
  | .int i, .int j => if 0 ≤ j ∧ j ≤ 1000000 ∧ i.natAbs < 2 ^ 64 then vI (i ^ j.toNat) else none
  | _, _ => none
theorem sr_pow : SemR g (rI CPow fun i j => .int (i ^ j.toNat)) powD := by
  intro C F H ρ σ d1 d2 v1 v2 w Q R r1 r2 e P
  cases d1 <;> cases d2 <;> first | (cases e; done) | skip
  simp only [powD] at e
  split at e
  · rename_i hc
    cases r1; cases r2; cases e
    exact ⟨_, _, rfl, rfl, hc, P F H (Same.refl F) R _ (.int _)⟩
  · cases e
def addD : D → D → Option Wv
  | .int i, .int j => vI (i + j)
  | .str x, .str y => if x.length + y.length ≤ sizeLine then some (.val (.str (x ++ y))) else none
  | .tup a, .tup b => if a.length + b.length ≤ sizeLine then some (.val (.tup (a ++ b))) else none
  | .lst a, .lst b => if a.length + b.length ≤ sizeLine then some (.new (.lst (a ++ b))) else none
  | _, _ => none
def rAddX (K : PySem.W.Frag) : R2 := fun x y H Q => rI0 (fun i j => .int (i + j)) x y H Q ∨ (∃ i j, x = .str i ∧ y = .str j ∧ i.length + j.length ≤ sizeLine ∧ Q (.str (i ++ j)) H) ∨ rCatA K x y H Q ∨ rCat x y H Q
theorem op_addX {X : Cx} : OpR X (binaryOp .Add) (rAddX X.K) := op_add.or (op_add_str.or (op_catA.or op_cat))
theorem sr_add : SemR g (rAddX g.K) addD := by
  intro C F H ρ σ d1 d2 v1 v2 w Q R r1 r2 e P
  cases d1 <;> cases d2 <;> first | (cases e; done) | skip
  · cases r1; cases r2; cases e
    exact .inl ⟨_, _, rfl, rfl, P F H (Same.refl F) R _ (.int _)⟩
  · simp only [addD] at e
    split at e
    · rename_i hc
      cases r1; cases r2; cases e
      exact .inr (.inl ⟨_, _, rfl, rfl, hc, P F H (Same.refl F) R _ (.str _)⟩)
    · cases e
  · rename_i l m
    simp only [addD] at e
    split at e
    · rename_i hc
      cases e
      cases r1 with
      | tup h1 q1 =>
        cases r2 with
        | tup h2 q2 =>
          refine .inr (.inr (.inl ⟨_, _, _, _, rfl, rfl, sqT_same R.sub h1, sqT_same R.sub h2, ?_, fun e => ?_, fun n e => ?_, fun n n2 p hp => ?_⟩))
          · rw [← q1.length, ← q2.length]; exact hc
          · have : l = [] := List.length_eq_zero_iff.mp (by rw [q1.length, e]; rfl)
            subst this
            exact P F H (Same.refl F) R _ (.tup h2 q2)
          · have : m = [] := List.length_eq_zero_iff.mp (by rw [q2.length, e]; rfl)
            subst this
            exact P F H (Same.refl F) R _ (by rw [List.append_nil]; exact .tup h1 q1)
          · obtain ⟨F2, s2, R2, h⟩ := R.newTup hp (q1.append q2)
            exact P F2 _ s2 R2 (.ref p) h
    · cases e
  · rename_i l m
    simp only [addD] at e
    split at e
    · rename_i hc
      cases e
      obtain ⟨a, vs, rfl, h1, q1⟩ := r1
      obtain ⟨b, ws, rfl, h2, q2⟩ := r2
      refine .inr (.inr (.inr ⟨a, b, vs, ws, rfl, rfl, h1, h2, by rw [← q1.length, ← q2.length]; exact hc, fun p hp => ?_⟩))
      exact P F _ (Same.refl F) (R.newLst hp (q1.append q2)).1 (.ref p) (R.newLst hp (q1.append q2)).2
    · cases e
def mulD : D → D → Option Wv
  | .int i, .int j => if i.natAbs.log2 + j.natAbs.log2 < 1000000 then vI (i * j) else none
  | .tup a, .int k => if a ≠ [] ∧ 2 ≤ k ∧ k ≤ 1000 ∧ a.length ≤ 1000 then some (.val (.tup (List.replicate k.toNat a).flatten)) else none
  | .lst a, .int k => if -(2 ^ 63) ≤ k ∧ k < 2 ^ 63 ∧ a.length * k.toNat ≤ sizeLine then some (.new (.lst (List.replicate k.toNat a).flatten)) else none
  | _, _ => none
def rMulX (K : PySem.W.Frag) : R2 := fun x y H Q => rI CMulW (fun i j => .int (i * j)) x y H Q ∨ rRepT K x y H Q ∨ rRep x y H Q
theorem op_mulX {X : Cx} : OpR X (binaryOp .Mult) (rMulX X.K) := op_mulW.or (op_repT.or op_rep)
theorem sr_mul : SemR g (rMulX g.K) mulD := by
  intro C F H ρ σ d1 d2 v1 v2 w Q R r1 r2 e P
  cases d1 <;> cases d2 <;> first | (cases e; done) | skip
  · simp only [mulD] at e
    split at e
    · rename_i hc
      cases r1; cases r2; cases e
      exact .inl ⟨_, _, rfl, rfl, hc, P F H (Same.refl F) R _ (.int _)⟩
    · cases e
  · simp only [mulD] at e
    split at e
    · rename_i hc
      cases r2; cases e
      cases r1 with
      | tup h1 q1 =>
        obtain ⟨c1, c2, c3, c4⟩ := hc
        refine .inr (.inl ⟨_, _, _, rfl, rfl, sqT_same R.sub h1, fun e => c1 (List.length_eq_zero_iff.mp (by rw [q1.length, e]; rfl)), c2, c3, by rw [← q1.length]; exact c4, fun p hp => ?_⟩)
        obtain ⟨F2, s2, R2, h⟩ := R.newTup hp (q1.rep _)
        exact P F2 _ s2 R2 (.ref p) h
    · cases e
  · simp only [mulD] at e
    split at e
    · rename_i hc
      cases r2; cases e
      obtain ⟨a, vs, rfl, h1, q1⟩ := r1
      obtain ⟨c1, c2, c3⟩ := hc
      refine .inr (.inr ⟨a, _, vs, rfl, rfl, h1, c1, c2, by rw [← q1.length]; exact c3, fun p hp => ?_⟩)
      exact P F _ (Same.refl F) (R.newLst hp (q1.rep _)).1 (.ref p) (R.newLst hp (q1.rep _)).2
    · cases e
def negD : D → Option Wv
  | .int i => vI (-i)
  | _ => none
theorem su_neg : SemU g (rU fun i => .int (-i)) negD := by
  intro C F H ρ σ d v1 w Q R r1 e P
  cases d <;> first | (cases e; done) | skip
  cases r1; cases e
  exact ⟨_, rfl, P F H (Same.refl F) R _ (.int _)⟩
/-- is None -/
def isND (d e : D) : Option Wv := match e with
  | .non => (match d with | .non => vB true | _ => vB false)
  | _ => none
def notND (d e : D) : Option Wv := match e with
  | .non => (match d with | .non => vB false | _ => vB true)
  | _ => none
theorem sr_isN : SemR g (fun x y H Q => y = .non ∧ Q (.bl (decide (x = .non))) H) isND := by
  intro C F H ρ σ d1 d2 v1 v2 w Q R r1 r2 e P
  have q1 := r1.all R.sub
  cases d2 <;> first | (cases e; done) | skip
  cases r2
  refine ⟨rfl, ?_⟩
  cases q1 <;> cases e <;> exact P F H (Same.refl F) R _ (.bl _)
theorem sr_notN : SemR g (fun x y H Q => y = .non ∧ Q (.bl (!decide (x = .non))) H) notND := by
  intro C F H ρ σ d1 d2 v1 v2 w Q R r1 r2 e P
  have q1 := r1.all R.sub
  cases d2 <;> first | (cases e; done) | skip
  cases r2
  refine ⟨rfl, ?_⟩
  cases q1 <;> cases e <;> exact P F H (Same.refl F) R _ (.bl _)

/-! ### in -/
def flatD : D → Bool
  | .non => true | .bl _ => true | .int _ => true | .str _ => true | _ => false
def D.seq : D → Option (List D)
  | .tup l => some l
  | .lst l => some l
  | _ => none
def inD (neg : Bool) (d e : D) : Option Wv := match e.seq with
  | some l => if flatD d && l.all flatD then vB (if neg then !l.any (fun y => D.eqv y d) else l.any (fun y => D.eqv y d)) else none
  | none => none
theorem flat_rp {F : Hp} {d : D} {v : V} (r : Rp g F d v) (h : flatD d = true) : flatV v = true := by
  cases r <;> first | rfl | cases h
theorem eqV_eqv {F : Hp} {d e : D} {v w : V} (r1 : Rp g F d v) (r2 : Rp g F e w) (h1 : flatD d = true) (h2 : flatD e = true) : eqV v w = D.eqv d e := by
  cases r1 <;> first | (cases h1; done) | skip
  all_goals (cases r2 <;> first | (cases h2; done) | simp [eqV, D.eqv, D.py, PyData.eqv])
theorem flats_rp {F : Hp} : ∀ {l : List D} {vs : List V}, RpL g F l vs → l.all flatD = true → vs.all flatV = true
  | _, _, .nil, _ => rfl
  | _, _, .cons r rs, h => by
    simp only [List.all_cons, Bool.and_eq_true] at h ⊢
    exact ⟨flat_rp r h.1, flats_rp rs h.2⟩
theorem inV_eqv {F : Hp} {d : D} {v : V} (r : Rp g F d v) (h : flatD d = true) : ∀ {l : List D} {vs : List V}, RpL g F l vs → l.all flatD = true → inV v vs = l.any fun y => D.eqv y d
  | _, _, .nil, _ => rfl
  | _, _, .cons r2 rs, q => by
    simp only [List.all_cons, Bool.and_eq_true] at q
    have e1 := inV_eqv r h rs q.2
    unfold inV at e1 ⊢
    rw [List.any_cons, List.any_cons, e1, eqV_eqv r2 r q.1 h]
theorem sr_in {neg : Bool} : SemR g (rIn g.K neg) (inD neg) := by
  intro C F H ρ σ d1 d2 v1 v2 w Q R r1 r2 e P
  have q1 := r1.all R.sub
  have q2 := r2.all R.sub
  unfold inD at e
  split at e
  · rename_i l hl
    split at e
    · rename_i hc
      cases e
      obtain ⟨c1, c2⟩ := Bool.and_eq_true_iff.mp hc
      have fin := P F H (Same.refl F) R _ (.bl _)
      cases q2 <;> first | (cases hl; done) | skip
      · cases hl
        rename_i hs rs
        exact ⟨_, _, rfl, .inr hs, flat_rp q1 c1, flats_rp rs c2, by rw [inV_eqv q1 c1 rs c2]; exact fin⟩
      · cases hl
        rename_i hs rs
        exact ⟨_, _, rfl, .inl (.inl (.inl hs)), flat_rp q1 c1, flats_rp rs c2, by rw [inV_eqv q1 c1 rs c2]; exact fin⟩
    · cases e
  · cases e
/-- a sign in a text -/
def inS (neg : Bool) : D → D → Option Wv
  | .str x, .str z => (match x.cps.toList with | [c] => vB (if neg then !decide (c ∈ z.cps.toList) else decide (c ∈ z.cps.toList)) | _ => none)
  | _, _ => none
theorem str_one {x : Str} {c : Nat} (h : x.cps.toList = [c]) : x = ⟨#[c]⟩ := by
  obtain ⟨⟨l⟩⟩ := x
  simp only at h
  subst h
  rfl
theorem sr_inS : SemR g (fun x y H Q => ∃ (c : Nat) (z : Str), x = .str ⟨#[c]⟩ ∧ y = .str z ∧ Q (.bl (decide (c ∈ z.cps.toList))) H) (inS false) := by
  intro C F H ρ σ d1 d2 v1 v2 w Q R r1 r2 e P
  cases d1 <;> cases d2 <;> first | (cases e; done) | skip
  simp only [inS] at e
  split at e
  · rename_i c hc
    cases r1; cases r2; cases e
    exact ⟨c, _, by rw [str_one hc], rfl, P F H (Same.refl F) R _ (.bl _)⟩
  · cases e
theorem sr_ninS : SemR g (fun x y H Q => ∃ (c : Nat) (z : Str), x = .str ⟨#[c]⟩ ∧ y = .str z ∧ Q (.bl (!decide (c ∈ z.cps.toList))) H) (inS true) := by
  intro C F H ρ σ d1 d2 v1 v2 w Q R r1 r2 e P
  cases d1 <;> cases d2 <;> first | (cases e; done) | skip
  simp only [inS] at e
  split at e
  · rename_i c hc
    cases r1; cases r2; cases e
    exact ⟨c, _, by rw [str_one hc], rfl, P F H (Same.refl F) R _ (.bl _)⟩
  · cases e

/-! ### places -/
def atD {α : Type} (l : List α) (i : Int) : Option α := atI l i
def ixD : D → D → Option Wv
  | .tup l, .int i => (atI l i).map .val
  | .lst l, .int i => (atI l i).map .val
  | .scr l, .int i => (atI l i).map fun z => .val (.int z)
  | .str x, .int i => if x.length ≤ sizeLine then (atI x.cps.toList i).map fun c => .val (.str ⟨#[c]⟩) else none
  | _, _ => none
theorem atI_rp {F : Hp} {l : List D} {vs : List V} {i : Int} {d : D} (r : RpL g F l vs) (h : atI l i = some d) : ∃ v, atI vs i = some v ∧ Rp g F d v := by
  unfold atI at h ⊢
  rw [← r.length]
  cases e : ixN l.length i with
  | none => rw [e] at h; cases h
  | some j =>
    rw [e] at h
    exact r.get h
theorem sr_ix : SemR g (rIx g.K) ixD := by
  intro C F H ρ σ d1 d2 v1 v2 w Q R r1 r2 e P
  have q1 := r1.all R.sub
  cases d1 <;> cases d2 <;> first | (cases e; done) | skip
  · simp only [ixD] at e
    split at e
    · rename_i hz
      cases r1; cases r2
      obtain ⟨c, h1, rfl⟩ := Option.map_eq_some_iff.mp e
      exact .inr (.inr ⟨_, _, c, rfl, rfl, hz, h1, P F H (Same.refl F) R _ (.str _)⟩)
    · cases e
  · obtain ⟨d, h1, rfl⟩ := Option.map_eq_some_iff.mp e
    cases r2
    cases r1 with
    | tup hs rs =>
      obtain ⟨v, h2, h3⟩ := atI_rp rs h1
      exact .inr (.inl ⟨_, _, _, v, rfl, rfl, sqT_same R.sub hs, h2, P F H (Same.refl F) R v h3⟩)
  · obtain ⟨d, h1, rfl⟩ := Option.map_eq_some_iff.mp e
    cases r2
    obtain ⟨a, vs, rfl, hs, rs⟩ := r1
    obtain ⟨v, h2, h3⟩ := atI_rp rs h1
    exact .inl ⟨_, _, _, v, rfl, rfl, .inl (.inl hs), h2, P F H (Same.refl F) R v h3⟩
  · obtain ⟨d, h1, rfl⟩ := Option.map_eq_some_iff.mp e
    cases r2
    cases r1 with
    | scr hs =>
      refine .inl ⟨_, _, _, .int d, rfl, rfl, R.sub.seq hs, ?_, P F H (Same.refl F) R _ (.int d)⟩
      unfold atI at h1 ⊢
      rw [List.length_map]
      cases e2 : ixN _ _ with
      | none => rw [e2] at h1; cases h1
      | some j =>
        rw [e2] at h1
        have h1' : _ = some d := h1
        simp only [Option.bind_some, List.getElem?_map] at h1' ⊢
        rw [h1']; rfl
end

/-! ### slices -/
def cutD (l : List D) (lo hi : Option Int) : List D := (l.drop (HT.sIx l.length 0 lo)).take (HT.sIx l.length l.length hi - HT.sIx l.length 0 lo)
def slD (d : D) (lo hi : Option Int) : Option Wv := match d with
  | .tup l => some (.val (.tup (cutD l lo hi)))
  | .lst l => some (.new (.lst (cutD l lo hi)))
  | .str x => if x.length ≤ sizeLine then some (.val (.str (cutS x lo hi))) else none
  | _ => none
abbrev Ov := Rho → Out (Option Int)
def tO (g : G) (Z : WX) (f : Ov) : TO := fun σ H Q => ∃ C F ρ, Rel g C F H ρ σ ∧ post g C F σ Z (fun o _ _ H' => Q o H') (f ρ)
abbrev FO (g : G) (X : Cx) (Z : WX) (e : Option Expr) (f : Ov) : Prop := PO X e (tO g Z f)
def noO : Ov := fun ρ => .ok none ρ
def intO (f : Ev) : Ov := bindG f fun w ρ => match w with
  | .val (.int i) => .ok (some i) ρ
  | _ => .bad
def bindO {β : Type} (f : Ov) (k : Option Int → Rho → Out β) : Rho → Out β := fun ρ => match f ρ with
  | .ok ws ρ' => k ws ρ'
  | .ex e ρ' => .ex e ρ'
  | .bad => .bad
def slE (fe : Ev) (lo hi : Ov) : Ev := bindG fe fun w => bindO lo fun l => bindO hi fun u => lift1 (fun d => slD d l u) w
def revD (d : D) : Option Wv := match d with
  | .lst l => some (.new (.lst l.reverse))
  | _ => none
def rSlX (K : PySem.W.Frag) : V → Option Int → Option Int → Hp → VK → Prop := fun x lo hi H Q => rSlA K x lo hi H Q ∨ rSlL K x lo hi H Q ∨ (∃ z, x = .str z ∧ z.length ≤ sizeLine ∧ Q (.str (cutS z lo hi)) H)
section
variable {g : G} {C : RC} {F H : Hp} {ρ ρ' : Rho} {σ : St} {Z : WX} {X : Cx} {e : Expr} {fa : Ev} {pos p2 : Pos} {lo hi : Option Expr} {fl fh : Ov}
theorem fo_none : FO g X Z none noO := ⟨fun pins s σ H Q I ⟨C, F, ρ, R, P⟩ => po_none.run pins s σ H Q I (P F H (Same.refl F) R)⟩
theorem fo_some (h : FE g X Z e fa) : FO g X Z (some e) (intO fa) := ⟨fun pins s σ H Q I ⟨C, F, ρ, R, P⟩ => (po_some h).run pins s σ H Q I (by
  refine post_bind R P fun F1 H1 ρ1 w v s1 R1 r1 n1 P1 => ?_
  cases w with
  | bor i => exact P1.elim
  | new o => exact P1.elim
  | val d =>
    cases d with
    | int i => cases r1; exact ⟨i, rfl, P1 F1 H1 (Same.refl F1) R1⟩
    | _ => exact P1.elim)⟩
theorem postO_bind {β : Type} {f : Ov} {k : Option Int → Rho → Out β} {Q : β → Rho → Hp → Hp → Prop} {Q1 : Option Int → Hp → Prop} (R : Rel g C F H ρ σ) (P : post g C F σ Z Q (bindO f k ρ))
    (h : ∀ F' H' ρ' b, Same F F' → Rel g C F' H' ρ' σ → post g C F' σ Z Q (k b ρ') → Q1 b H') : tO g Z f σ H Q1 := by
  refine ⟨C, F, ρ, R, ?_⟩
  unfold bindO at P
  cases e : f ρ with
  | bad => rw [e] at P; exact P
  | ex x ρ' => rw [e] at P; exact P
  | ok w ρ' =>
    rw [e] at P
    exact fun F' H' s R' => h F' H' ρ' w s R' (P.mono s)
theorem cut_rp {l : List D} {vs : List V} (r : RpL g F l vs) (lo hi : Option Int) : RpL g F (cutD l lo hi) (cutV vs lo hi) := by
  unfold cutD cutV
  rw [← r.length]
  exact (r.drop _).take _
theorem cutD_whole {l : List D} {lo hi : Option Int} (h : HT.sIx l.length 0 lo = 0 ∧ HT.sIx l.length l.length hi = l.length) : cutD l lo hi = l := by
  unfold cutD
  rw [h.1, h.2]
  simp
theorem sl_use {w : Wv} {v : V} {l u : Option Int} {Q : VK} (R : Rel g C F H ρ σ) (r1 : RpW g C F H ρ σ w v) (P : postE g C F σ Z Q (lift1 (fun d => slD d l u) w ρ)) : rSlX g.K v l u H Q := by
  refine lift1_use (r := fun v H Q => rSlX g.K v l u H Q) ?_ R r1 P
  intro C F H ρ σ d v1 w Q R r1 e P
  cases d <;> first | (cases e; done) | skip
  · simp only [slD] at e
    split at e
    · rename_i hz
      cases r1; cases e
      exact .inr (.inr ⟨_, rfl, hz, P F H (Same.refl F) R _ (.str _)⟩)
    · cases e
  · cases e
    cases r1 with
    | tup hs rs =>
      refine .inl ⟨_, _, rfl, sqT_same R.sub hs, fun hw => ?_, fun hw p hp => ?_⟩
      · rw [← rs.length] at hw
        exact P F H (Same.refl F) R _ (by rw [cutD_whole hw]; exact .tup hs rs)
      · obtain ⟨F2, s2, R2, h⟩ := R.newTup hp (cut_rp rs l u)
        exact P F2 _ s2 R2 (.ref p) h
  · cases e
    obtain ⟨a, vs, rfl, hs, rs⟩ := r1
    refine .inr (.inl ⟨_, _, rfl, .inl (.inl hs), fun p hp => ?_⟩)
    exact P F _ (Same.refl F) (R.newLst hp (cut_rp rs l u)).1 (.ref p) (R.newLst hp (cut_rp rs l u)).2
theorem fe_sl (he : FE g X Z e fa) (hl : FO g X Z lo fl) (hh : FO g X Z hi fh) (hK : g.K = X.K := by rfl) : FE g X Z (.Subscript e (.Slice lo hi none p2) pos) (slE fa fl fh) :=
  pe_imp (pe_slice (r := rSlX X.K) (sl_tupA.or (sl_list.or sl_str)) he hl hh) fun σ H Q ⟨C, F, ρ, R, P⟩ =>
    post_bind R P fun F1 H1 ρ1 w v s1 R1 r1 n1 P1 => postO_bind R1 P1 fun F2 H2 ρ2 l s2 R2 P2 => postO_bind R2 P2 fun F3 H3 ρ3 u s3 R3 P3 => by
      have q := sl_use R3 (r1.mono (s2.trans s3) n1) P3
      rw [hK] at q
      exact q
theorem fe_rev {k : Nat} {p1 p3 p4 : Pos} (he : FE g X Z e fa) (hK : g.K = X.K := by rfl) : FE g X Z (.Subscript e (.Slice none none (some (.UnaryOp .USub (.Constant (.int 1) k p1) p3)) p4) pos) (unE revD fa) :=
  pe_imp (pe_revL he) fun σ H Q ⟨C, F, ρ, R, P⟩ =>
    post_bind R P fun F1 H1 ρ1 w v s1 R1 r1 n1 P1 => by
      refine lift1_use (r := fun v H Q => ∃ a xs, v = .ref a ∧ SqL X.K H a xs ∧ ∀ p, H p = none → Q (.ref p) (upd H p (.lst xs.reverse))) ?_ R1 r1 P1
      intro C F H ρ σ d v1 w Q R r1 e P
      cases d <;> first | (cases e; done) | skip
      cases e
      obtain ⟨a, vs, rfl, hs, rs⟩ := r1
      refine ⟨_, _, rfl, .inl (.inl hs), fun p hp => ?_⟩
      exact P F _ (Same.refl F) (R.newLst hp (rs.reverse)).1 (.ref p) (R.newLst hp (rs.reverse)).2
end
end FX
namespace FX
open PySem PySem.Spec PyProof.Rows L2

/-! ### stores -/
def canSet (ρ : Rho) (i : Nat) : Bool := match ρ[i]? with
  | some (.own true _) => false
  | some _ => true
  | none => false
def setW (i : Nat) (w : Wv) (ρ : Rho) : Option Rho := match w with
  | .new o => if canSet ρ i then some (ρ.set i (.own false o)) else none
  | w => match grab w ρ with
    | some (d, ρ1) => if canSet ρ1 i then some (ρ1.set i (.val d)) else none
    | none => none
def toNx : Option Rho → SO
  | some ρ => .nx ρ
  | none => .bad
/-- f's value as it is (a new list not frozen), then k -/
def bindN (f : Ev) (k : Wv → Sv) : Sv := fun ρ => match f ρ with
  | .ok w ρ' => k w ρ'
  | .ex e ρ' => .ex e ρ'
  | .bad => .bad
/-- x = e; F: a new list frozen at once; N: it becomes the slot's own -/
def setF (i : Nat) (f : Ev) : Sv := bindS f fun w ρ => toNx (setW i w ρ)
def setN (i : Nat) (f : Ev) : Sv := bindN f fun w ρ => toNx (setW i w ρ)
def dropS (f : Ev) : Sv := bindN f fun _ ρ => .nx ρ
def retS (f : Ev) : Sv := bindN f fun w ρ => .rt w ρ
def retN : Sv := fun ρ => .rt (.val .non) ρ
def nxS : Sv := fun ρ => .nx ρ
def bkS : Sv := fun ρ => .bk ρ
def ctS : Sv := fun ρ => .ct ρ
def seqS (f h : Sv) : Sv := fun ρ => match f ρ with
  | .nx ρ' => h ρ'
  | o => o
def ifS (c : Tv) (f h : Sv) : Sv := bindTS c fun b => if b then f else h
section
variable {g : G} {C : RC} {F H : Hp} {ρ ρ' : Rho} {σ : St} {Z : WX} {X : Cx} {e c : Expr} {fa : Ev} {pos : Pos} {ta : Tv} {st : Stmt} {rest a b : List Stmt} {s1 s2 : Sv}
theorem canSet_ok {i : Nat} (h : canSet ρ i = true) : i < ρ.length ∧ ∀ u, ρ[i]? ≠ some (.own true u) := by
  unfold canSet at h
  cases e : ρ[i]? with
  | none => rw [e] at h; cases h
  | some c =>
    refine ⟨(List.getElem?_eq_some_iff.mp e).1, fun u z => ?_⟩
    cases z
    rw [e] at h
    cases h
theorem setW_ok {i : Nat} {w : Wv} {v : V} (R : Rel g C F H ρ σ) (r : RpW g C F H ρ σ w v) (e : setW i w ρ = some ρ') : ∃ F', Same F F' ∧ Rel g C F' H ρ' (σ.set i (some v)) := by
  have gen : ∀ {w : Wv}, RpW g C F H ρ σ w v → (match grab w ρ with | some (d, ρ1) => if canSet ρ1 i then some (ρ1.set i (.val d)) else none | none => none) = some ρ' → ∃ F', Same F F' ∧ Rel g C F' H ρ' (σ.set i (some v)) := fun {w} r e => by
    cases e1 : grab w ρ with
    | none => rw [e1] at e; cases e
    | some q =>
      obtain ⟨d, ρ1⟩ := q
      rw [e1] at e
      simp only at e
      split at e
      · rename_i hc
        cases e
        obtain ⟨F1, s1, R1, h1⟩ := grab_ok R r e1
        obtain ⟨c1, c2⟩ := canSet_ok hc
        exact ⟨F1, s1, R1.setV c1 c2 h1⟩
      · cases e
  cases w with
  | new o =>
    simp only [setW] at e
    split at e
    · rename_i hc
      cases e
      obtain ⟨c1, c2⟩ := canSet_ok hc
      exact ⟨F, Same.refl F, R.setN c1 c2 r⟩
    · cases e
  | val d => exact gen r e
  | bor j => exact gen r e
theorem postN_bind {f : Ev} {k : Wv → Sv} {N : Ends} {Q1 : VK} (R : Rel g C F H ρ σ) (P : postS g C F Z N (bindN f k ρ))
    (h : ∀ F' H' ρ' w v, Same F F' → Rel g C F' H' ρ' σ → RpW g C F' H' ρ' σ w v → postS g C F' Z N (k w ρ') → Q1 v H') : tE g Z f σ H Q1 := by
  refine ⟨C, F, ρ, R, ?_⟩
  unfold bindN at P
  cases e : f ρ with
  | bad => rw [e] at P; exact P
  | ex x ρ' => rw [e] at P; exact fun F' H' c d s R' rx => P F' H' σ c d s R' rx
  | ok w ρ' =>
    rw [e] at P
    exact fun F' H' s R' v r => h F' H' ρ' w v s R' r (P.mono s)
theorem toNx_use {i : Nat} {w : Wv} {v : V} {N : Ends} (R : Rel g C F H ρ σ) (r : RpW g C F H ρ σ w v) (P : postS g C F Z N (toNx (setW i w ρ))) : N.nx (σ.set i (some v)) H := by
  cases e : setW i w ρ with
  | none => rw [e] at P; exact P.elim
  | some ρ' =>
    rw [e] at P
    obtain ⟨F', s, R'⟩ := setW_ok R r e
    exact P F' H _ s R'
theorem fs_set {x : Str} {pos' : Pos} (i : Nat) (hN : X.N.Nodup) (he : FE g X Z e fa) (hi : X.N[i]? = some x := by rfl) (hx : Loc X.env.scope x := by first | exact Or.inl rfl | exact Or.inr rfl) (hs : swapsWith e (some (.Name x pos')) pos.line X.env = pure false := by rfl) (hf : X.fn x = true ∨ X.env.scope.names.lookup x = some .local := by first | exact .inl rfl | exact .inr rfl | assumption) :
    FS g X Z (.Assign [.Name x pos'] e pos) (setF i fa) := ps_imp (ps_set hN hi hx he hs hf) fun N σ H ⟨C, F, ρ, R, P⟩ => postS_bind (Z' := Z) R P fun F1 H1 ρ1 w v s1 R1 r1 n1 P1 => toNx_use R1 r1 P1
theorem fs_setN {x : Str} {pos' : Pos} (i : Nat) (hN : X.N.Nodup) (he : FE g X Z e fa) (hi : X.N[i]? = some x := by rfl) (hx : Loc X.env.scope x := by first | exact Or.inl rfl | exact Or.inr rfl) (hs : swapsWith e (some (.Name x pos')) pos.line X.env = pure false := by rfl) (hf : X.fn x = true ∨ X.env.scope.names.lookup x = some .local := by first | exact .inl rfl | exact .inr rfl | assumption) :
    FS g X Z (.Assign [.Name x pos'] e pos) (setN i fa) := ps_imp (ps_set hN hi hx he hs hf) fun N σ H ⟨C, F, ρ, R, P⟩ => postN_bind R P fun F1 H1 ρ1 w v s1 R1 r1 P1 => toNx_use R1 r1 P1
theorem fs_expr (he : FE g X Z e fa) (hs : swapsWith e none pos.line X.env = pure false := by rfl) : FS g X Z (.Expr e pos) (dropS fa) := ps_imp (ps_expr he hs) fun N σ H ⟨C, F, ρ, R, P⟩ => postN_bind R P fun F1 H1 ρ1 w v s1 R1 r1 P1 => P1 F1 H1 σ (Same.refl F1) R1
theorem fs_ret (he : FE g X Z e fa) : FS g X Z (.Return (some e) pos) (retS fa) := ps_imp (ps_ret he) fun N σ H ⟨C, F, ρ, R, P⟩ => postN_bind R P fun F1 H1 ρ1 w v s1 R1 r1 P1 => P1 F1 H1 σ v (Same.refl F1) R1 r1
theorem fs_retN : FS g X Z (.Return none pos) retN := ps_imp ps_retN fun N σ H ⟨C, F, ρ, R, P⟩ => P F H σ .non (Same.refl F) R .non
theorem fs_pass : FS g X Z (.Pass pos) nxS := ps_imp ps_pass fun N σ H ⟨C, F, ρ, R, P⟩ => P F H σ (Same.refl F) R
theorem fs_break : FS g X Z (.Break pos) bkS := ps_imp ps_break fun N σ H ⟨C, F, ρ, R, P⟩ => P F H σ (Same.refl F) R
theorem fs_continue : FS g X Z (.Continue pos) ctS := ps_imp ps_continue fun N σ H ⟨C, F, ρ, R, P⟩ => P F H σ (Same.refl F) R
theorem fss_nil : FSs g X Z [] nxS := pss_imp pss_nil fun N σ H ⟨C, F, ρ, R, P⟩ => P F H σ (Same.refl F) R
theorem fss_one (h : FS g X Z st s1) : FSs g X Z [st] s1 := pss_one h
theorem postS_seq {N : Ends} {C : RC} {F : Hp} {ρ : Rho} (P : postS g C F Z N (seqS s1 s2 ρ)) : postS g C F Z { N with nx := tS g Z s2 N } (s1 ρ) := by
  unfold seqS at P
  cases e : s1 ρ with
  | nx ρ' =>
    rw [e] at P
    exact fun F' H' σ' s R' => ⟨C, F', ρ', R', P.mono s⟩
  | rt w ρ' => rw [e] at P; exact P
  | bk ρ' => rw [e] at P; exact P
  | ct ρ' => rw [e] at P; exact P
  | ex x ρ' => rw [e] at P; exact P
  | bad => rw [e] at P; exact P
theorem fss_cons (h1 : FS g X Z st s1) (h2 : FSs g X Z rest s2) : FSs g X Z (st :: rest) (seqS s1 s2) := pss_imp (pss_cons h1 h2) fun N σ H ⟨C, F, ρ, R, P⟩ => ⟨C, F, ρ, R, postS_seq P⟩
theorem fs_if (hc : FT g X Z c ta) (ha : FSs g X Z a s1) (hb : FSs g X Z b s2) : FS g X Z (.If c a b pos) (ifS ta s1 s2) := ps_imp (ps_if hc ha hb) fun N σ H ⟨C, F, ρ, R, P⟩ =>
  postTS_bind R P fun F1 H1 ρ1 c s1 R1 P1 => by
    cases c with
    | true => exact ⟨C, F1, ρ1, R1, P1⟩
    | false => exact ⟨C, F1, ρ1, R1, P1⟩
/-- what no run comes to -/
def badS : Sv := fun _ => .bad
theorem fs_never : FS g X Z st badS := ps_imp ps_never fun N σ H ⟨C, F, ρ, R, P⟩ => P
theorem fss_never : FSs g X Z rest badS := pss_imp pss_never fun N σ H ⟨C, F, ρ, R, P⟩ => P
end

/-! ### while -/
def whileS (c : Tv) (body : Sv) : Nat → Sv
  | 0 => fun _ => .bad
  | n + 1 => bindTS c fun b => if b then (fun ρ => match body ρ with
      | .nx ρ' => whileS c body n ρ'
      | .ct ρ' => whileS c body n ρ'
      | .bk ρ' => .nx ρ'
      | o => o) else nxS
section
variable {g : G} {Z : WX} {X : Cx} {c : Expr} {body : List Stmt} {pos : Pos} {ta : Tv} {s1 : Sv}
theorem fs_while (n : Nat) (hp : PassesOwn (model X.prog X.w) X.A X.env X.xe) (hc : FT g X Z c ta) (hb : FSs g X Z body s1) : FS g X Z (.While c body [] pos) (whileS ta s1 n) := ps_imp (ps_while hp hc hb) fun N σ H ⟨C, F, ρ, R, P⟩ => by
  refine ⟨fun m σ H => ∃ F1 ρ1, Same F F1 ∧ Rel g C F1 H ρ1 σ ∧ postS g C F1 Z N (whileS ta s1 m ρ1), ⟨n, F, ρ, Same.refl F, R, P⟩, fun m σ H hW => ?_⟩
  obtain ⟨F1, ρ1, s0, R1, P1⟩ := hW
  cases m with
  | zero => exact P1.elim
  | succ m =>
    refine postTS_bind R1 P1 fun F2 H2 ρ2 b s2 R2 P2 => ?_
    cases b with
    | false => exact P2 F2 H2 σ (Same.refl F2) R2
    | true =>
      refine ⟨fun σ' H' => ∃ F3 ρ3, Same F F3 ∧ Rel g C F3 H' ρ3 σ' ∧ postS g C F3 Z N (whileS ta s1 m ρ3), fun σ' H' h => ⟨m, Nat.lt_succ_self m, h⟩, C, F2, ρ2, R2, ?_⟩
      simp only [if_true] at P2
      cases e : s1 ρ2 with
      | nx ρ' => rw [e] at P2; exact fun F' H' σ' s R' => ⟨F', ρ', (s0.trans s2).trans s, R', P2.mono s⟩
      | ct ρ' => rw [e] at P2; exact fun F' H' σ' s R' => ⟨F', ρ', (s0.trans s2).trans s, R', P2.mono s⟩
      | bk ρ' => rw [e] at P2; exact P2
      | rt w ρ' => rw [e] at P2; exact P2
      | ex x ρ' => rw [e] at P2; exact P2
      | bad => rw [e] at P2; exact P2
end

/-! ### targets -/
abbrev Gv := D → Rho → Option Rho
def gN (i : Nat) : Gv := fun d ρ => if canSet ρ i then some (ρ.set i (.val d)) else none
def gNs : List Gv → List D → Rho → Option Rho
  | [], [], ρ => some ρ
  | t :: ts, d :: ds, ρ => (t d ρ).bind (gNs ts ds)
  | _, _, _ => none
def gT (ts : List Gv) : Gv := fun d ρ => match d with
  | .tup l => gNs ts l ρ
  | _ => none
/-- alike but at some slots -/
def But (is : List Nat) (σ σ' : St) : Prop := σ.length = σ'.length ∧ ∀ j : Nat, j ∉ is → σ[j]? = σ'[j]?
theorem But.refl {is : List Nat} {σ : St} : But is σ σ := ⟨rfl, fun _ _ => rfl⟩
theorem But.trans {is js : List Nat} {σ σ1 σ2 : St} (a : But is σ σ1) (b : But js σ1 σ2) : But (is ++ js) σ σ2 :=
  ⟨a.1.trans b.1, fun j h => (a.2 j fun z => h (List.mem_append_left _ z)).trans (b.2 j fun z => h (List.mem_append_right _ z))⟩
theorem But.mono {is js : List Nat} {σ σ1 : St} (a : But is σ σ1) (h : ∀ j ∈ is, j ∈ js) : But js σ σ1 := ⟨a.1, fun j hj => a.2 j fun z => hj (h j z)⟩
theorem But.set {i : Nat} {σ : St} {v : Option V} : But [i] σ (σ.set i v) := ⟨by simp, fun j h => by
  have : i ≠ j := fun z => h (by simp [z])
  rw [List.getElem?_set_ne this]⟩
theorem wipe_get {σ : St} {j : Nat} : ∀ {vs : List Nat}, (wipe σ vs)[j]? = if j ∈ vs ∧ j < σ.length then some none else σ[j]?
  | [] => by simp [wipe]
  | v :: vs => by
    unfold wipe
    by_cases h : v = j
    · subst h
      by_cases hl : v < σ.length
      · rw [List.getElem?_set_self (by rw [wipe_length]; exact hl)]
        simp [hl]
      · rw [List.getElem?_eq_none (by rw [List.length_set, wipe_length]; omega), List.getElem?_eq_none (by omega)]
        simp [hl]
    · rw [List.getElem?_set_ne h, wipe_get (vs := vs)]
      have : ¬ j = v := fun z => h z.symm
      simp [this]
theorem But.wipes {vs : List Nat} {σ σ' : St} (a : But vs σ σ') : wipe σ' vs = wipe σ vs := by
  apply List.ext_getElem?
  intro j
  rw [wipe_get, wipe_get, a.1]
  by_cases h : j ∈ vs
  · by_cases hl : j < σ'.length
    · simp [h, hl]
    · simp only [h, hl, and_false, if_false]
      rw [List.getElem?_eq_none (by omega), List.getElem?_eq_none (by rw [a.1]; omega)]
  · simp only [h, false_and, if_false]
    exact (a.2 j h).symm
theorem But.wipe {vs : List Nat} {σ : St} : But vs σ (L2.wipe σ vs) := ⟨(wipe_length σ vs).symm, fun j h => by rw [wipe_get]; simp [h]⟩
def tG (g : G) (is : List Nat) (f : Gv) : TG := fun v σ H Q => ∃ C F ρ d, Rel g C F H ρ σ ∧ Rp g F d v ∧ match f d ρ with
  | some ρ' => ∀ σ', Rel g C F H ρ' σ' → But is σ σ' → Q σ' H
  | none => False
def tGs (g : G) (is : List Nat) (fs : List Gv) : TGs := fun vs σ H Q => ∃ C F ρ ds, Rel g C F H ρ σ ∧ RpL g F ds vs ∧ match gNs fs ds ρ with
  | some ρ' => ∀ σ', Rel g C F H ρ' σ' → But is σ σ' → Q σ' H
  | none => False
abbrev FG (g : G) (X : Cx) (e : Expr) (is : List Nat) (f : Gv) : Prop := PG X e (tG g is f)
abbrev FGs (g : G) (X : Cx) (es : List Expr) (is : List Nat) (fs : List Gv) : Prop := PGs X es (tGs g is fs)
section
variable {g : G} {X : Cx} {pos : Pos} {e : Expr} {es : List Expr} {f : Gv} {fs : List Gv} {is js : List Nat}
theorem pg_imp {t t' : TG} (h : PG X e t) (i : ∀ v σ H Q, t' v σ H Q → t v σ H Q) : PG X e t' := ⟨fun pins s σ H v u Q I r q => h.run pins s σ H v u Q I r (i v σ H Q q)⟩
theorem pgs_imp {t t' : TGs} (h : PGs X es t) (i : ∀ v σ H Q, t' v σ H Q → t v σ H Q) : PGs X es t' := ⟨fun pins s σ H v u Q I r q => h.run pins s σ H v u Q I r (i v σ H Q q)⟩
theorem fg_name {x : Str} (i : Nat) (hN : X.N.Nodup) (hi : X.N[i]? = some x := by rfl) (hx : Loc X.env.scope x := by first | exact Or.inl rfl | exact Or.inr rfl) (hf : X.fn x = true ∨ X.env.scope.names.lookup x = some .local := by first | exact .inl rfl | exact .inr rfl | assumption) :
    FG g X (.Name x pos) [i] (gN i) := pg_imp (pg_name hN hi hx hf) fun v σ H Q ⟨C, F, ρ, d, R, r, P⟩ => by
  simp only [gN] at P
  split at P
  · rename_i ρ' e
    split at e
    · rename_i hc
      cases e
      obtain ⟨c1, c2⟩ := canSet_ok hc
      exact P _ (R.setV c1 c2 r) But.set
    · cases e
  · exact P.elim
theorem fgs_nil : FGs g X [] [] [] := pgs_imp pgs_nil fun v σ H Q ⟨C, F, ρ, ds, R, r, P⟩ => by
  cases r with
  | nil => exact ⟨rfl, P σ R But.refl⟩
  | cons _ _ => exact P.elim
theorem fgs_cons (h1 : FG g X e is f) (h2 : FGs g X es js fs) (hs : (assignEach (e :: es) X.env).map (·.2) = assign e X.env :: (assignEach es X.env).map (·.2) := by rfl) : FGs g X (e :: es) (is ++ js) (f :: fs) := pgs_imp (pgs_cons h1 h2 hs) fun v σ H Q ⟨C, F, ρ, ds, R, r, P⟩ => by
  cases r with
  | nil => exact P.elim
  | @cons d l v vs q qs =>
    refine ⟨v, vs, rfl, C, F, ρ, d, R, q, ?_⟩
    simp only [gNs] at P
    cases e1 : f d ρ with
    | none => simp only [e1, Option.bind_none] at P
    | some ρ1 =>
      simp only [e1, Option.bind_some] at P
      refine fun σ1 R1 b1 => ⟨C, F, ρ1, l, R1, qs, ?_⟩
      cases e2 : gNs fs l ρ1 with
      | none => rw [e2] at P; exact P
      | some ρ2 => rw [e2] at P; exact fun σ2 R2 b2 => P σ2 R2 (b1.trans b2)
theorem fg_tupOf {k n : Nat} (hp : ∀ {t : TGs}, PGs X es t → PG X (.Tuple es k pos) (gTup X.K n t)) (h : FGs g X es is fs) (hK : g.K = X.K := by rfl) (hl : fs.length = n := by rfl) :
    FG g X (.Tuple es k pos) is (gT fs) := pg_imp (hp h) fun v σ H Q ⟨C, F, ρ, d, R, r, P⟩ => by
  have len : ∀ (fs : List Gv) (l : List D) (ρ ρ' : Rho), gNs fs l ρ = some ρ' → l.length = fs.length := by
    intro fs
    induction fs with
    | nil => intro l ρ ρ' e; cases l with
      | nil => rfl
      | cons _ _ => cases e
    | cons f fs ih => intro l ρ ρ' e; cases l with
      | nil => cases e
      | cons d l =>
        simp only [gNs] at e
        cases e1 : f d ρ with
        | none => rw [e1] at e; cases e
        | some ρ1 => rw [e1] at e; simp only [Option.bind_some] at e; simp [ih l ρ1 ρ' e]
  cases r with
  | @tup l a vs h1 h2 =>
    simp only [gT] at P
    cases e1 : gNs fs l ρ with
    | none => rw [e1] at P; exact P.elim
    | some ρ1 =>
      refine ⟨a, vs, rfl, ?_, ?_, C, F, ρ, l, R, h2, P⟩
      · have q := sqT_same R.sub h1
        rw [hK] at q
        exact q
      · rw [← h2.length, len fs l ρ ρ1 e1, hl]
  | _ => exact P.elim
theorem fg_tup {k n : Nat} (hc : X.calm = true) (h : FGs g X es is fs) (hK : g.K = X.K := by rfl) (hl : fs.length = n := by rfl) (hn : (assignEach es X.env).length = n := by rfl) (hst : (assignEach es X.env).findIdx? (·.1) = none := by rfl) :
    FG g X (.Tuple es k pos) is (gT fs) := fg_tupOf (fun h => pg_tup hc h hn hst) h hK hl
end

/-! ### a, b = e -/
def tupS (f : Ev) (ts : List Gv) : Sv := bindS f fun w ρ => match w with
  | .val d => toNx (gT ts d ρ)
  | _ => .bad
section
variable {g : G} {X : Cx} {Z : WX} {pos tpos : Pos} {e : Expr} {es : List Expr} {f : Ev} {ts : List Gv} {is : List Nat}
theorem fs_tupA {k n : Nat} (hc : X.calm = true) (he : FE g X Z e f) (h : FGs g X es is ts) (hK : g.K = X.K := by rfl) (hl : ts.length = n := by rfl) (hn : (assignEach es X.env).length = n := by rfl) (hst : (assignEach es X.env).findIdx? (·.1) = none := by rfl)
    (hs : swapsWithSole [.Tuple es k tpos] e pos.line X.env = pure false := by rfl) (hw : swappedStores [.Tuple es k tpos] e X.env = pure none := by rfl) (h1 : (assignEach [.Tuple es k tpos] X.env).map (·.2) = [assign (.Tuple es k tpos) X.env] := by rfl) :
    FS g X Z (.Assign [.Tuple es k tpos] e pos) (tupS f ts) := ps_imp (ps_asg he (fg_tup hc h hK hl hn hst) hs hw h1) fun N σ H ⟨C, F, ρ, R, P⟩ => postS_bind (Z' := Z) R P fun F1 H1 ρ1 w v s1 R1 r1 n1 P1 => by
  cases w with
  | bor i => exact P1.elim
  | new o => exact P1.elim
  | val d =>
    refine ⟨C, F1, ρ1, d, R1, r1, ?_⟩
    cases e : gT ts d ρ1 with
    | none => simp only [e, toNx] at P1; exact P1.elim
    | some ρ' =>
      simp only [e, toNx] at P1
      exact fun σ' R' _ => P1 F1 H1 σ' (Same.refl F1) R'
end

/-! ### a value that waits is kept from outside -/
def RC.hold (C : RC) (F : Hp) (p : Addr) (o : HO) : RC := { C with B := upd C.B p o, F0 := F }
section
variable {g : G} {C : RC} {F F' H H' : Hp} {ρ ρ' : Rho} {σ σ' : St} {p : Addr} {u : DO}
theorem Rel.hold (R : Rel g C F H ρ σ) (r : RpW g C F H ρ σ (.new u) (.ref p)) : ∃ o, H p = some o ∧ Rel g (C.hold F p o) F H ρ σ := by
  obtain ⟨a, e, r1, r2, r3, r4⟩ := r
  cases e
  obtain ⟨o, ho, hot⟩ := r1.some
  refine ⟨o, ho, R.len, R.sub, fun b v e => ?_, fun b v e => .inl e, R.tab, R.noTF, fun b ps e => ?_, R.val, fun i q w e => ?_, R.inj, R.anc⟩
  · by_cases hb : b = p
    · rw [hb] at e ⊢
      have e' : upd C.B p o p = some v := e
      rw [upd_same] at e'
      rw [ho]; exact e'
    · have e' : upd C.B p o b = some v := e
      rw [upd_ne hb] at e'
      exact R.subB b v e'
  · by_cases hb : b = p
    · rw [hb] at e
      have e' : upd C.B p o p = some (.tbl ps) := e
      rw [upd_same] at e'
      exact hot ps (Option.some.inj e')
    · have e' : upd C.B p o b = some (.tbl ps) := e
      rw [upd_ne hb] at e'
      exact R.noTB b ps e'
  · obtain ⟨b, b1, b2, b3, b4⟩ := R.own i q w e
    have hb : b ≠ p := fun z => r4 i (by rw [e]; rfl) (by rw [b1, z])
    exact ⟨b, b1, b2, b3, by show upd C.B p o b = none; rw [upd_ne hb]; exact b4⟩
theorem Rel.unhold {o : HO} (R0 : Rel g C F H ρ σ) (hB : C.B p = none) (R : Rel g (C.hold F p o) F' H' ρ' σ') : Rel g C F' H' ρ' σ' where
  len := R.len
  sub := R.sub
  subB := fun b v e => R.subB b v (by show upd C.B p o b = some v; rw [upd_ne (fun z => by rw [z, hB] at e; cases e)]; exact e)
  grow := fun b v e => by
    rcases R.grow b v e with h | h
    · exact R0.grow b v h
    · right
      by_cases hb : b = p
      · rw [hb]; exact hB
      · have h' : upd C.B p o b = none := h
        rw [upd_ne hb] at h'
        exact h'
  tab := R.tab
  noTF := R.noTF
  noTB := R0.noTB
  val := R.val
  own := fun i q w e => by
    obtain ⟨b, b1, b2, b3, b4⟩ := R.own i q w e
    refine ⟨b, b1, b2, b3, ?_⟩
    have h' : upd C.B p o b = none := b4
    by_cases hb : b = p
    · rw [hb]; exact hB
    · rw [upd_ne hb] at h'; exact h'
  inj := R.inj
  anc := R.anc
/-- the waiting value behind it -/
theorem RpW.held {o : HO} (s : Same F F') (r : RpW g C F H ρ σ (.new u) (.ref p)) (ho : H p = some o) (R : Rel g (C.hold F p o) F' H' ρ' σ') : RpW g C F' H' ρ' σ' (.new u) (.ref p) := by
  obtain ⟨a, e, r1, r2, r3, r4⟩ := r
  cases e
  have hB : upd C.B p o p = some o := upd_same
  have h1 : H' p = some o := R.subB p o hB
  refine ⟨p, rfl, r1.mono s (h1.trans ho.symm), ?_, r3, fun i hi e => ?_⟩
  · cases q : F' p with
    | none => rfl
    | some v =>
      rcases R.grow p v q with h | h
      · have h' : F p = some v := h
        rw [r2] at h'; cases h'
      · have h' : upd C.B p o p = none := h
        rw [upd_same] at h'; cases h'
  · obtain ⟨_, _, b, _, b1, _, _, b4⟩ := R.owns hi
    rw [e] at b1
    cases b1
    have b4' : upd C.B p o p = none := b4
    rw [upd_same] at b4'
    cases b4'
end

/-! ### a, b = x, y (the stores swapped) -/
def PairH (g : G) (C : RC) (F H : Hp) (ρ : Rho) (σ : St) : List Wv → List V → Prop
  | [], [] => True
  | w :: ws, v :: vs => RpW g C F H ρ σ w v ∧ (notNew w = false → ∀ (i : Nat) (w' : Wv), ws[i]? = some w' → vs[i]? = some v → notNew w' = true) ∧ PairH g C F H ρ σ ws vs
  | _, _ => False
def tP (g : G) (Z : WX) (f : Av) : TA := fun σ H Q => ∃ C F ρ, Rel g C F H ρ σ ∧ post g C F σ Z (fun ws ρ F' H' => ∀ vs, PairH g C F' H' ρ σ ws vs → Q vs H') (f ρ)
abbrev FP (g : G) (X : Cx) (Z : WX) (es : List Expr) (f : Av) : Prop := PA X es (tP g Z f)
/-- as consA, nothing frozen -/
def consP (f : Ev) (fs : Av) : Av := fun ρ => match f ρ with
  | .ok w ρ1 => (match fs ρ1 with
    | .ok ws ρ2 => .ok (w :: ws) ρ2
    | .ex e ρ2 => .ex e ρ2
    | .bad => .bad)
  | .ex e ρ1 => .ex e ρ1
  | .bad => .bad
def setPs : List Nat → List Wv → Rho → Option Rho
  | [], [], ρ => some ρ
  | i :: is, .val d :: ws, ρ => if canSet ρ i then setPs is ws (ρ.set i (.val d)) else none
  | i :: is, .new o :: ws, ρ => if canSet ρ i then setPs is ws (ρ.set i (.own false o)) else none
  | _, _, _ => none
def setSs : List Nat → List V → St → St
  | i :: is, v :: vs, σ => setSs is vs (σ.set i (some v))
  | _, _, σ => σ
def parS (is : List Nat) (fs : Av) : Sv := fun ρ => match fs ρ with
  | .ok ws ρ1 => toNx (setPs is ws ρ1)
  | .ex e ρ1 => .ex e ρ1
  | .bad => .bad
section
variable {g : G} {C : RC} {F F' H H' : Hp} {ρ ρ' : Rho} {σ σ' : St} {Z : WX} {X : Cx} {e : Expr} {es : List Expr} {fa : Ev} {fs : Av}
theorem fp_nil : FP g X Z [] nilA := pa_imp pa_nil fun σ H Q ⟨C, F, ρ, R, P⟩ => P F H (Same.refl F) R [] trivial
theorem pairH_get : ∀ {ws : List Wv} {vs : List V} {i : Nat} {w : Wv}, PairH g C F H ρ σ ws vs → ws[i]? = some w → ∃ v, vs[i]? = some v ∧ RpW g C F H ρ σ w v
  | w0 :: ws, v0 :: vs, 0, w, h, e => by simp at e; subst e; exact ⟨v0, rfl, h.1⟩
  | w0 :: ws, v0 :: vs, i + 1, w, h, e => by
    obtain ⟨v, h1, h2⟩ := pairH_get (i := i) h.2.2 (by simpa using e)
    exact ⟨v, by simpa using h1, h2⟩
  | [], [], i, w, h, e => by simp at e
  | [], _ :: _, i, w, h, e => h.elim
  | _ :: _, [], i, w, h, e => h.elim
theorem pairH_map {C2 : RC} {F2 H2 : Hp} {ρ2 : Rho} {σ2 : St} : ∀ {ws : List Wv} {vs : List V}, PairH g C F H ρ σ ws vs → (∀ w v, w ∈ ws → RpW g C F H ρ σ w v → RpW g C2 F2 H2 ρ2 σ2 w v) → PairH g C2 F2 H2 ρ2 σ2 ws vs
  | [], [], h, _ => h
  | w :: ws, v :: vs, h, f => ⟨f w v List.mem_cons_self h.1, h.2.1, pairH_map h.2.2 fun w' v' hm => f w' v' (List.mem_cons_of_mem _ hm)⟩
  | [], _ :: _, h, _ => h
  | _ :: _, [], h, _ => h
theorem unheld {p : Addr} {o : HO} {w : Wv} {v : V} (hB : C.B p = none) (r : RpW g (C.hold F p o) F' H' ρ' σ' w v) : RpW g C F' H' ρ' σ' w v ∧ (notNew w = false → v ≠ .ref p) := by
  cases w with
  | val d => exact ⟨r, fun z => by cases z⟩
  | bor i => exact ⟨r, fun z => by cases z⟩
  | new u =>
    obtain ⟨a, e, r1, r2, r3, r4⟩ := r
    have h' : upd C.B p o a = none := r3
    have ha : a ≠ p := fun z => by rw [z, upd_same] at h'; cases h'
    rw [upd_ne ha] at h'
    exact ⟨⟨a, e, r1, r2, h', r4⟩, fun _ z => by rw [e] at z; cases z; exact ha rfl⟩
theorem fp_cons (ha : FE g X Z e fa) (hr : FP g X Z es fs) (hs : starEach (e :: es) X.env = (false, eval e X.env) :: starEach es X.env := by rfl) : FP g X Z (e :: es) (consP fa fs) := pa_imp (pa_cons ha hr hs) fun σ H Q ⟨C, F, ρ, R, P⟩ => by
  refine ⟨C, F, ρ, R, ?_⟩
  unfold consP at P
  cases e1 : fa ρ with
  | bad => rw [e1] at P; exact P
  | ex x ρ' => rw [e1] at P; exact P
  | ok w ρ1 =>
    rw [e1] at P
    intro F1 H1 s1 R1 v r1
    have simple : notNew w = true → tP g Z fs σ H1 fun vs H2 => Q (v :: vs) H2 := fun n => by
      refine ⟨C, F1, ρ1, R1, ?_⟩
      cases e2 : fs ρ1 with
      | bad => simp only [e2] at P; exact P
      | ex x ρ' => simp only [e2] at P; exact fun F' H' c d s => P F' H' c d (s1.trans s)
      | ok ws ρ2 =>
        simp only [e2] at P
        exact fun F2 H2 s2 R2 vs pr => P F2 H2 (s1.trans s2) R2 (v :: vs) ⟨r1.mono s2 n, (fun z => by rw [n] at z; cases z), pr⟩
    cases w with
    | val d => exact simple rfl
    | bor i => exact simple rfl
    | new u =>
      obtain ⟨p, rfl, q1, q2, q3, q4⟩ := id r1
      obtain ⟨o, ho, Rh⟩ := R1.hold r1
      refine ⟨C.hold F1 p o, F1, ρ1, Rh, ?_⟩
      cases e2 : fs ρ1 with
      | bad => simp only [e2] at P; exact P
      | ex x ρ' => simp only [e2] at P; exact fun F' H' c d s R' rx => P F' H' c d (s1.trans s) (R1.unhold q3 R') rx
      | ok ws ρ2 =>
        simp only [e2] at P
        intro F2 H2 s2 R2 vs pr
        refine P F2 H2 (s1.trans s2) (R1.unhold q3 R2) (.ref p :: vs) ⟨r1.held s2 ho R2, fun _ i w' h1 h2 => ?_, pairH_map pr fun w' v' _ r' => (unheld q3 r').1⟩
        cases hn : notNew w' with
        | true => rfl
        | false =>
          obtain ⟨v', h3, h4⟩ := pairH_get pr h1
          rw [h2] at h3; cases h3
          exact absurd rfl ((unheld q3 h4).2 hn)
def noBor : Wv → Bool
  | .bor _ => false
  | _ => true
theorem setPs_noBor : ∀ {is : List Nat} {ws : List Wv} {ρ ρ' : Rho}, setPs is ws ρ = some ρ' → ∀ w ∈ ws, noBor w = true
  | [], [], ρ, ρ', e, w, hw => by cases hw
  | [], w0 :: ws, ρ, ρ', e, w, hw => by cases e
  | i :: is, [], ρ, ρ', e, w, hw => by cases e
  | i :: is, .bor j :: ws, ρ, ρ', e, w, hw => by cases e
  | i :: is, .val d :: ws, ρ, ρ', e, w, hw => by
    simp only [setPs] at e
    split at e
    · rcases List.mem_cons.mp hw with h | h
      · subst h; rfl
      · exact setPs_noBor e w h
    · cases e
  | i :: is, .new d :: ws, ρ, ρ', e, w, hw => by
    simp only [setPs] at e
    split at e
    · rcases List.mem_cons.mp hw with h | h
      · subst h; rfl
      · exact setPs_noBor e w h
    · cases e
theorem pairH_mapK {C2 : RC} {F2 H2 : Hp} {ρ2 : Rho} {σ2 : St} : ∀ {ws : List Wv} {vs : List V}, PairH g C F H ρ σ ws vs → (∀ (k : Nat) (w : Wv) (v : V), ws[k]? = some w → vs[k]? = some v → RpW g C F H ρ σ w v → RpW g C2 F2 H2 ρ2 σ2 w v) → PairH g C2 F2 H2 ρ2 σ2 ws vs
  | [], [], h, _ => h
  | w :: ws, v :: vs, h, f => ⟨f 0 w v rfl rfl h.1, h.2.1, pairH_mapK h.2.2 fun k w' v' h1 h2 => f (k + 1) w' v' (by simpa using h1) (by simpa using h2)⟩
  | [], _ :: _, h, _ => h
  | _ :: _, [], h, _ => h
theorem setPs_ok : ∀ {is : List Nat} {ws : List Wv} {vs : List V} {ρ ρ' : Rho} {σ : St}, Rel g C F H ρ σ → PairH g C F H ρ σ ws vs → setPs is ws ρ = some ρ' → Rel g C F H ρ' (setSs is vs σ)
  | [], [], [], ρ, ρ', σ, R, _, e => by cases e; exact R
  | [], [], v :: vs, ρ, ρ', σ, R, h, e => h.elim
  | [], w :: ws, vs, ρ, ρ', σ, R, _, e => by cases e
  | i :: is, [], vs, ρ, ρ', σ, R, _, e => by cases e
  | i :: is, .bor j :: ws, vs, ρ, ρ', σ, R, _, e => by cases e
  | i :: is, .val d :: ws, [], ρ, ρ', σ, R, h, e => h.elim
  | i :: is, .new o :: ws, [], ρ, ρ', σ, R, h, e => h.elim
  | i :: is, .val d :: ws, v :: vs, ρ, ρ', σ, R, h, e => by
    simp only [setPs] at e
    split at e
    · rename_i hc
      obtain ⟨c1, c2⟩ := canSet_ok hc
      have nb := setPs_noBor e
      show Rel g C F H ρ' (setSs is vs (σ.set i (some v)))
      refine setPs_ok (R.setV c1 c2 h.1) (pairH_mapK h.2.2 fun k w' v' h1 h2 r' => ?_) e
      cases w' with
      | val d' => exact r'
      | bor j => exact Bool.noConfusion (nb _ (List.mem_of_getElem? h1))
      | new o =>
        obtain ⟨a1, e1, r1, r2, r3, r4⟩ := r'
        refine ⟨a1, e1, r1, r2, r3, fun j hj ej => ?_⟩
        have hij : i ≠ j := fun z => by subst z; rw [List.getElem?_set_self c1] at hj; cases hj
        rw [List.getElem?_set_ne hij] at hj ej
        exact r4 j hj ej
    · cases e
  | i :: is, .new o :: ws, v :: vs, ρ, ρ', σ, R, h, e => by
    simp only [setPs] at e
    split at e
    · rename_i hc
      obtain ⟨c1, c2⟩ := canSet_ok hc
      have nb := setPs_noBor e
      show Rel g C F H ρ' (setSs is vs (σ.set i (some v)))
      refine setPs_ok (R.setN c1 c2 h.1) (pairH_mapK h.2.2 fun k w' v' h1 h2 r' => ?_) e
      cases w' with
      | val d' => exact r'
      | bor j => exact Bool.noConfusion (nb _ (List.mem_of_getElem? h1))
      | new o =>
        obtain ⟨a1, e1, r1, r2, r3, r4⟩ := r'
        refine ⟨a1, e1, r1, r2, r3, fun j hj ej => ?_⟩
        by_cases hij : i = j
        · subst hij
          rw [List.getElem?_set_self (by rw [← R.len]; exact c1)] at ej
          cases ej
          rw [e1] at h2
          exact Bool.noConfusion (h.2.1 rfl k _ h1 h2)
        · rw [List.getElem?_set_ne hij] at hj ej
          exact r4 j hj ej
    · cases e
theorem parS_use {is : List Nat} {N : Ends} (h : tS g Z (parS is fs) N σ H) : tP g Z fs σ H fun vs H1 => N.nx (setSs is vs σ) H1 := by
  obtain ⟨C, F, ρ, R, P⟩ := h
  refine ⟨C, F, ρ, R, ?_⟩
  unfold parS at P
  cases e : fs ρ with
  | bad => rw [e] at P; exact P
  | ex x ρ' => rw [e] at P; exact fun F' H' c d s R' rx => P F' H' σ c d s R' rx
  | ok ws ρ1 =>
    rw [e] at P
    intro F' H' s R' vs pr
    cases e2 : setPs is ws ρ1 with
    | none => simp only [e2, toNx] at P; exact P.elim
    | some ρ2 =>
      simp only [e2, toNx] at P
      exact P F' H' _ s (setPs_ok R' pr e2)
theorem tP_len {n : Nat} {Q : List V → Hp → Prop} (h : tP g Z fs σ H fun vs H1 => vs.length = n → Q vs H1) (hn : ∀ ρ ws ρ', fs ρ = .ok ws ρ' → ws.length = n) : tP g Z fs σ H Q := by
  obtain ⟨C, F, ρ, R, P⟩ := h
  refine ⟨C, F, ρ, R, ?_⟩
  cases e : fs ρ with
  | bad => rw [e] at P; exact P
  | ex x ρ' => rw [e] at P; exact P
  | ok ws ρ1 =>
    rw [e] at P
    refine fun F' H' s R' vs pr => P F' H' s R' vs pr ?_
    rw [← hn _ _ _ e]
    have hl : ∀ {ws : List Wv} {vs : List V}, PairH g C F' H' ρ1 σ ws vs → vs.length = ws.length := by
      intro ws
      induction ws with
      | nil => intro vs h; cases vs with
        | nil => rfl
        | cons _ _ => exact h.elim
      | cons w ws ih => intro vs h; cases vs with
        | nil => exact h.elim
        | cons v vs => simp [ih h.2.2]
    exact hl pr
theorem consP_len {n : Nat} (hn : ∀ ρ ws ρ', fs ρ = .ok ws ρ' → ws.length = n) : ∀ ρ ws ρ', consP fa fs ρ = .ok ws ρ' → ws.length = n + 1 := fun ρ ws ρ' e => by
  unfold consP at e
  cases e1 : fa ρ with
  | bad => rw [e1] at e; cases e
  | ex x ρ1 => rw [e1] at e; cases e
  | ok w ρ1 =>
    rw [e1] at e
    simp only at e
    cases e2 : fs ρ1 with
    | bad => rw [e2] at e; cases e
    | ex x ρ2 => rw [e2] at e; cases e
    | ok ws2 ρ2 =>
      rw [e2] at e
      cases e
      simp [hn _ _ _ e2]
theorem nilA_len : ∀ ρ ws ρ', nilA ρ = .ok ws ρ' → ws.length = 0 := fun ρ ws ρ' e => by cases e; rfl
variable {pos : Pos}
theorem fs_par {x y : Str} {a b : Expr} {fa fb : Ev} {px py pt : Pos} {kt k2 pt2} (i j : Nat) (hc : X.calm = true) (hN : X.N.Nodup) (ha : FE g X Z a fa) (hb : FE g X Z b fb) (hi : X.N[i]? = some x := by rfl) (hj : X.N[j]? = some y := by rfl) (hij : i ≠ j := by decide)
    (hx : X.env.scope.names.lookup x = some .local := by rfl) (hy : X.env.scope.names.lookup y = some .local := by rfl) (h1 : starEach [a, b] X.env = (false, eval a X.env) :: starEach [b] X.env := by rfl) (h2 : starEach [b] X.env = (false, eval b X.env) :: starEach [] X.env := by rfl)
    (hw : swappedStores [.Tuple [.Name x px, .Name y py] kt pt] (.Tuple [a, b] k2 pt2) X.env = pure (some [x, y]) := by rfl)
    (hs : swapsWithSole [.Tuple [.Name x px, .Name y py] kt pt] (.Tuple [a, b] k2 pt2) pos.line X.env = pure false := by rfl) :
    FS g X Z (.Assign [.Tuple [.Name x px, .Name y py] kt pt] (.Tuple [a, b] k2 pt2) pos) (parS [i, j] (consP fa (consP fb nilA))) :=
  ps_imp (ps_par hc hN hi hj hij hx hy (fp_cons ha (fp_cons hb fp_nil h2) h1) hw hs) fun N σ H h => tP_len (n := 2) (by
    obtain ⟨C, F, ρ, R, P⟩ := parS_use h
    refine ⟨C, F, ρ, R, ?_⟩
    cases e : consP fa (consP fb nilA) ρ with
    | bad => rw [e] at P; exact P
    | ex x ρ' => rw [e] at P; exact P
    | ok ws ρ1 =>
      rw [e] at P
      intro F' H' s R' vs pr hl
      match vs, hl with
      | [v, w], _ => exact ⟨v, w, rfl, P F' H' s R' [v, w] pr⟩) (consP_len (consP_len nilA_len))
theorem fs_par3 {x y z : Str} {a b c : Expr} {fa fb fc : Ev} {px py pz pt : Pos} {kt k2 pt2} (i j l : Nat) (hc : X.calm = true) (hN : X.N.Nodup) (ha : FE g X Z a fa) (hb : FE g X Z b fb) (hcc : FE g X Z c fc) (hi : X.N[i]? = some x := by rfl) (hj : X.N[j]? = some y := by rfl) (hl : X.N[l]? = some z := by rfl) (hij : i ≠ j := by decide) (hil : i ≠ l := by decide) (hjl : j ≠ l := by decide)
    (hx : X.env.scope.names.lookup x = some .local := by rfl) (hy : X.env.scope.names.lookup y = some .local := by rfl) (hz : X.env.scope.names.lookup z = some .local := by rfl) (h1 : starEach [a, b, c] X.env = (false, eval a X.env) :: starEach [b, c] X.env := by rfl) (h2 : starEach [b, c] X.env = (false, eval b X.env) :: starEach [c] X.env := by rfl) (h3 : starEach [c] X.env = (false, eval c X.env) :: starEach [] X.env := by rfl)
    (hw : swappedStores [.Tuple [.Name x px, .Name y py, .Name z pz] kt pt] (.Tuple [a, b, c] k2 pt2) X.env = pure (some [x, y, z]) := by rfl)
    (hs : swapsWithSole [.Tuple [.Name x px, .Name y py, .Name z pz] kt pt] (.Tuple [a, b, c] k2 pt2) pos.line X.env = pure false := by rfl) :
    FS g X Z (.Assign [.Tuple [.Name x px, .Name y py, .Name z pz] kt pt] (.Tuple [a, b, c] k2 pt2) pos) (parS [i, j, l] (consP fa (consP fb (consP fc nilA)))) :=
  ps_imp (ps_par3 hc hN hi hj hl hij hil hjl hx hy hz (fp_cons ha (fp_cons hb (fp_cons hcc fp_nil h3) h2) h1) hw hs) fun N σ H h => tP_len (n := 3) (by
    obtain ⟨C, F, ρ, R, P⟩ := parS_use h
    refine ⟨C, F, ρ, R, ?_⟩
    cases e : consP fa (consP fb (consP fc nilA)) ρ with
    | bad => rw [e] at P; exact P
    | ex x ρ' => rw [e] at P; exact P
    | ok ws ρ1 =>
      rw [e] at P
      intro F' H' s R' vs pr hl
      match vs, hl with
      | [v, w, u], _ => exact ⟨v, w, u, rfl, P F' H' s R' [v, w, u] pr⟩) (consP_len (consP_len (consP_len nilA_len)))
end
end FX
namespace FX
open PySem PySem.Spec PyProof.Rows L2

/-! ### what is walked -/
/-- the iterator gives the items, whatever else happens -/
def JOk (g : G) (F : Hp) (J : It) (items : List D) : Prop := ∀ (C : RC) (F' H' : Hp) (ρ : Rho) (σ : St), Same F F' → Rel g C F' H' ρ σ →
  (∀ (i : Nat) (d : D), items[i]? = some d → J.go i H' ∧ ∀ x H2, J.yld i H' x H2 → ∃ F2, Same F' F2 ∧ Rel g C F2 H2 ρ σ ∧ Rp g F2 d x) ∧ ∀ i : Nat, items.length ≤ i → J.stop i H'
theorem JOk.mono {g : G} {F F1 : Hp} {J : It} {items : List D} (s : Same F F1) (h : JOk g F J items) : JOk g F1 J items := fun C F' H' ρ σ s' R => h C F' H' ρ σ (s.trans s') R
abbrev Iv := Rho → Out (List D)
def tI (g : G) (Z : WX) (f : Iv) : TI := fun σ H R => ∃ C F ρ, Rel g C F H ρ σ ∧ post g C F σ Z (fun items _ F' H' => ∀ J, JOk g F' J items → R J H') (f ρ)
abbrev FI (g : G) (X : Cx) (Z : WX) (tg iter : Expr) (f : Iv) : Prop := PI X tg iter (tI g Z f)
theorem pi_imp {X : Cx} {tg iter : Expr} {t t' : TI} (h : PI X tg iter t) (i : ∀ σ H Q, t' σ H Q → t σ H Q) : PI X tg iter t' := ⟨fun pins s σ H Q I q => h.run pins s σ H Q I (i σ H Q q)⟩
theorem pi_or {X : Cx} {tg iter : Expr} {t t' : TI} (h : PI X tg iter t) (h' : PI X tg iter t') : PI X tg iter (fun σ H R => t σ H R ∨ t' σ H R) := ⟨fun pins s σ H Q I q => q.elim (h.run pins s σ H Q I) (h'.run pins s σ H Q I)⟩
/-- what is walked: a tuple, a list, a text, the script -/
def D.walk : D → Option (List D)
  | .tup l => some l
  | .lst l => some l
  | .str x => some (x.cps.toList.map fun c => .str ⟨#[c]⟩)
  | .scr l => some (l.map .int)
  | _ => none
/-- the items of a list or a tuple (a slot's own list is frozen) -/
def seqI (f : Ev) : Iv := bindG f fun w ρ => match grab w ρ with
  | some (d, ρ1) => (match d.walk with | some l => .ok l ρ1 | none => .bad)
  | none => .bad
def intsD (lo : Int) (n : Nat) : List D := (List.range n).map fun i => .int (lo + (i : Nat))
def rng1 (f : Ev) : Iv := bindG f fun w ρ => match w with
  | .val (.int j) => if -(2 ^ 62) ≤ j ∧ j < 2 ^ 62 then .ok (intsD 0 j.toNat) ρ else .bad
  | _ => .bad
def rng2 (f h : Ev) : Iv := bindG f fun w => bindG h fun u ρ => match w, u with
  | .val (.int i), .val (.int j) => if -(2 ^ 62) ≤ i ∧ i < 2 ^ 62 ∧ -(2 ^ 62) ≤ j ∧ j < 2 ^ 62 then .ok (intsD i (j - i).toNat) ρ else .bad
  | _, _ => .bad
section
variable {g : G} {C : RC} {F H : Hp} {ρ ρ' : Rho} {σ : St} {Z : WX} {X : Cx} {e a b tg : Expr} {fa fb : Ev} {pos : Pos}
theorem jok_list {p : Addr} {l : List D} {vs : List V} (hK : SqL g.K F p vs) (r : RpL g F l vs) : JOk g F (Itl g.K p) l := fun C F' H' ρ σ s R => by
  have hH := R.sub.seq (s.seq hK)
  refine ⟨fun i d e => ?_, fun i hi => ⟨vs, hH, by rw [← r.length]; exact hi⟩⟩
  obtain ⟨v, h1, h2⟩ := r.get e
  refine ⟨⟨vs, v, hH, h1⟩, fun x H2 y => ?_⟩
  obtain ⟨rfl, y2⟩ := y
  have ev := y2 vs hH
  rw [h1] at ev; cases ev
  exact ⟨F', Same.refl F', R, h2.mono s⟩
theorem jok_tup {p : Addr} {l : List D} {vs : List V} (hK : SqT g.K F p vs) (r : RpL g F l vs) : JOk g F (Itt g.K p) l := fun C F' H' ρ σ s R => by
  have hH := sqT_same R.sub (sqT_same s hK)
  refine ⟨fun i d e => ?_, fun i hi => ⟨vs, hH, by rw [← r.length]; exact hi⟩⟩
  obtain ⟨v, h1, h2⟩ := r.get e
  refine ⟨⟨vs, v, hH, h1⟩, fun x H2 y => ?_⟩
  obtain ⟨rfl, y2⟩ := y
  have ev := y2 vs hH
  rw [h1] at ev; cases ev
  exact ⟨F', Same.refl F', R, h2.mono s⟩
theorem jok_range {lo : Int} {n : Nat} : JOk g F (Itr lo n) (intsD lo n) := fun C F' H' ρ σ s R => by
  refine ⟨fun i d e => ?_, fun i hi => by
    have q : n ≤ i := by simpa [intsD] using hi
    exact q⟩
  have hi : i < n := by
    have := (List.getElem?_eq_some_iff.mp e).1
    simpa [intsD] using this
  refine ⟨hi, fun x H2 y => ?_⟩
  obtain ⟨rfl, rfl⟩ := y
  have : d = .int (lo + (i : Nat)) := by
    unfold intsD at e
    rw [List.getElem?_map, List.getElem?_range hi] at e
    exact (Option.some.inj e).symm
  subst this
  exact ⟨F', Same.refl F', R, .int _⟩
theorem jok_str {x : Str} : JOk g F (Its x) (x.cps.toList.map fun c => .str ⟨#[c]⟩) := fun C F' H' ρ σ s R => by
  refine ⟨fun i d e => ?_, fun i hi => by simpa [Its] using hi⟩
  rw [List.getElem?_map] at e
  obtain ⟨c, h1, rfl⟩ := Option.map_eq_some_iff.mp e
  have hi : i < x.cps.size := by
    have := (List.getElem?_eq_some_iff.mp h1).1
    simpa using this
  refine ⟨hi, fun y H2 ⟨e2, c2, h2, e3⟩ => ?_⟩
  subst e2 e3
  have : c2 = c := by
    rw [← Array.getElem?_toList, h1] at h2
    exact (Option.some.inj h2).symm
  subst this
  exact ⟨F', Same.refl F', R, .str _⟩
theorem jok_scr {p : Addr} {l : List Int} (hK : SqL g.K F p (l.map V.int)) : JOk g F (Itl g.K p) (l.map .int) := fun C F' H' ρ σ s R => by
  have hH := R.sub.seq (s.seq hK)
  refine ⟨fun i d e => ?_, fun i hi => ⟨_, hH, by simpa using hi⟩⟩
  rw [List.getElem?_map] at e
  obtain ⟨z, h1, rfl⟩ := Option.map_eq_some_iff.mp e
  have h2 : (l.map V.int)[i]? = some (.int z) := by rw [List.getElem?_map, h1]; rfl
  refine ⟨⟨_, _, hH, h2⟩, fun x H2 ⟨e2, y2⟩ => ?_⟩
  subst e2
  have ev := y2 _ hH
  rw [h2] at ev; cases ev
  exact ⟨F', Same.refl F', R, .int z⟩
/-- a list or a tuple, as it comes -/
def iSeq (K : PySem.W.Frag) (tl : TE) : TI := fun σ H R => tl σ H fun x H1 => (∃ p, x = .ref p ∧ ((∃ xs, SqL K H1 p xs ∧ R (Itl K p) H1) ∨ ∃ xs, SqT K H1 p xs ∧ R (Itt K p) H1)) ∨ ∃ z, x = .str z ∧ R (Its z) H1
theorem fresh_fp {pins : List (Addr × Obj)} {s : Shared} (I : Inv X pins σ H s) : ∀ c ∈ [s.heap.objs.size], FpOk X pins H c := fun c hc => by
  rw [List.mem_singleton.mp hc]
  exact I.fpOk (Nat.le_refl _) (I.hok.fresh (Nat.le_refl _))
theorem pi_seq {tl : TE} (he : PE X e tl) : PI X tg e (iSeq X.K tl) := ⟨fun pins s σ H R I h =>
  thn (he.run pins s σ H _ I h) fun v s1 ⟨x, H1, I1, r1, q⟩ => by
    have kp : ∀ {o : Obj} (b u), s1.heap.get? b = some u → (s1.heap.push o).get? b = some u := fun b u z => Heap.get?_push_of_some _ z
    rcases q with ⟨p, ex, q⟩ | ⟨z, ex, q⟩
    · rw [ex] at r1
      obtain rfl : v = .ref p := r1
      rcases q with ⟨xs, hq, q⟩ | ⟨xs, hq, q⟩
      · obtain ⟨its, _, pl, _⟩ := I1.list hq
        exact wpAny_pyIter_list pl.isList ⟨_, [_], _, _, H1, rfl, I1.kept (t' := s1.toks) kp, turn_list p _, ⟨_, Heap.get?_push_size _ rfl, rfl, rfl⟩, fresh_fp I1, q⟩
      · obtain ⟨its, _, pt, _⟩ := I1.tuple hq
        exact wpAny_pyIter_tuple (show s1.heap.IsTuple p its.toArray from pt) ⟨_, [_], _, _, H1, rfl, I1.kept (t' := s1.toks) kp, turn_tuple p _, ⟨_, Heap.get?_push_size _ rfl, rfl, rfl⟩, fresh_fp I1, q⟩
    · subst ex
      obtain ⟨t, rfl⟩ := r1
      have go := fun o ty hty st => pi_one (tg := tg) (σ := σ) (tk := s1.toks) (tn := fun i h => h.IsStrIter s1.heap.objs.size ty z t i) I1 o (turn_str _ z t ty hty) st q
      cases hz : z.cps.all (· < 128) with
      | true => exact wpAny_pyIter_ascii hz (go _ _ (.inl rfl) ⟨_, Heap.get?_push_size _ rfl, rfl, rfl⟩)
      | false => exact wpAny_pyIter_wide hz (go _ _ (.inr rfl) ⟨_, Heap.get?_push_size _ rfl, rfl, rfl⟩)⟩
theorem fi_seq (he : FE g X Z e fa) (hK : g.K = X.K := by rfl) : FI g X Z tg e (seqI fa) := pi_imp (pi_seq he) fun σ H Q ⟨C, F, ρ, R, P⟩ =>
  post_bind R P fun F1 H1 ρ1 w v s1 R1 r1 n1 P1 => by
    cases e2 : grab w ρ1 with
    | none => simp only [e2] at P1; exact P1.elim
    | some q =>
      obtain ⟨d, ρ3⟩ := q
      simp only [e2] at P1
      obtain ⟨F2, s2, R2, h2⟩ := grab_ok R1 r1 e2
      cases e3 : d.walk with
      | none => rw [e3] at P1; exact P1.elim
      | some l =>
        rw [e3] at P1
        cases h2 with
        | tup hs rs =>
          cases e3
          refine .inl ⟨_, rfl, .inr ⟨_, by rw [← hK]; exact sqT_same R2.sub hs, ?_⟩⟩
          rw [← hK]
          exact P1 F2 H1 s2 R2 _ (jok_tup hs rs)
        | lst hs rs =>
          cases e3
          refine .inl ⟨_, rfl, .inl ⟨_, by rw [← hK]; exact R2.sub.seq (.inl (.inl hs)), ?_⟩⟩
          rw [← hK]
          exact P1 F2 H1 s2 R2 _ (jok_list (.inl (.inl hs)) rs)
        | scr hs =>
          cases e3
          refine .inl ⟨_, rfl, .inl ⟨_, by rw [← hK]; exact R2.sub.seq hs, ?_⟩⟩
          rw [← hK]
          exact P1 F2 H1 s2 R2 _ (jok_scr hs)
        | str x =>
          cases e3
          exact .inr ⟨_, rfl, P1 F2 H1 s2 R2 _ jok_str⟩
        | _ => cases e3
theorem fi_rng1 {p : Pos} (hg : Gl X "range") (hm : X.mg "range" = none) (ha : FE g X Z a fa) (hs : starEach [a] X.env = [(false, eval a X.env)] := by rfl) : FI g X Z tg (.Call (.Name "range" p) [a] [] pos) (rng1 fa) :=
  pi_imp (pi_range1 hg hm (pa_cons ha pa_nil hs) hs) fun σ H Q ⟨C, F, ρ, R, P⟩ => post_bind R P fun F1 H1 ρ1 w v s1 R1 r1 n1 P1 => by
    cases w with
    | bor i => exact P1.elim
    | new o => exact P1.elim
    | val d =>
      cases d with
      | int j =>
        simp only at P1
        split at P1
        · rename_i hc
          cases r1
          exact ⟨j, rfl, hc.1, hc.2, P1 F1 H1 (Same.refl F1) R1 _ jok_range⟩
        · exact P1.elim
      | _ => exact P1.elim
theorem fi_rng2 {p : Pos} (hg : Gl X "range") (hm : X.mg "range" = none) (ha : FE g X Z a fa) (hb : FE g X Z b fb) (hs : starEach [a, b] X.env = [(false, eval a X.env), (false, eval b X.env)] := by rfl) (hs2 : starEach [b] X.env = [(false, eval b X.env)] := by rfl) :
    FI g X Z tg (.Call (.Name "range" p) [a, b] [] pos) (rng2 fa fb) :=
  pi_imp (pi_range2 hg hm (pa_cons ha (pa_cons hb pa_nil hs2) (by rw [hs, hs2])) hs hs2) fun σ H Q ⟨C, F, ρ, R, P⟩ => post_bind R P fun F1 H1 ρ1 w v s1 R1 r1 n1 P1 => post_bind R1 P1 fun F2 H2 ρ2 u v2 s2 R2 r2 n2 P2 => by
    cases w with
    | bor i => exact P2.elim
    | new o => exact P2.elim
    | val d =>
      cases u with
      | bor i => cases d <;> exact P2.elim
      | new o => cases d <;> exact P2.elim
      | val d' =>
        cases d with
        | int i =>
          cases d' with
          | int j =>
            simp only at P2
            split at P2
            · rename_i hc
              cases r1
              cases r2
              exact ⟨i, j, rfl, hc, P2 F2 H2 (Same.refl F2) R2 _ jok_range⟩
            · exact P2.elim
          | _ => exact P2.elim
        | _ => exact P2.elim
end

/-! ### for -/
def forL (gt : Gv) (body : Sv) : List D → Sv
  | [] => nxS
  | d :: ds => fun ρ => match gt d ρ with
    | some ρ1 => (match body ρ1 with
      | .nx ρ2 => forL gt body ds ρ2
      | .ct ρ2 => forL gt body ds ρ2
      | .bk ρ2 => .nx ρ2
      | o => o)
    | none => .bad
def forS (fi : Iv) (gt : Gv) (body : Sv) : Sv := fun ρ => match fi ρ with
  | .ok ds ρ' => forL gt body ds ρ'
  | .ex e ρ' => .ex e ρ'
  | .bad => .bad
section
variable {g : G} {C : RC} {F H : Hp} {ρ ρ' : Rho} {σ : St} {Z : WX} {X : Cx} {iter tg : Expr} {fi : Iv} {pos : Pos} {body : List Stmt} {s1 : Sv} {gt : Gv} {is : List Nat}
theorem fs_for (hp : PassesOwn (model X.prog X.w) X.A X.env X.xe) (hc : X.calm = true) (hi : FI g X Z tg iter fi) (hg : FG g X tg is gt) (hb : FSs g X Z body s1) (hs : ∀ x, foldedSetIterable iter X.env x = pure x := by intro _; rfl) :
    FS g X Z (.For tg iter body [] pos) (forS fi gt s1) := ps_imp (ps_for hp hc hi hg hb hs) fun N σ H ⟨C, F, ρ, R, P⟩ => by
  refine ⟨C, F, ρ, R, ?_⟩
  unfold forS at P
  cases e : fi ρ with
  | bad => rw [e] at P; exact P
  | ex x ρ' => rw [e] at P; exact fun F' H' c d s R' rx => P F' H' σ c d s R' rx
  | ok ds ρ1 =>
    rw [e] at P
    intro F1 H1 sf1 R1 J hJ
    refine ⟨fun i m σ H => ∃ F2 ρ2, Same F1 F2 ∧ Rel g C F2 H ρ2 σ ∧ i ≤ ds.length ∧ m = ds.length - i ∧ postS g C F2 Z N (forL gt s1 (ds.drop i) ρ2), ⟨_, F1, ρ1, Same.refl F1, R1, Nat.zero_le _, rfl, P.mono sf1⟩, fun i m σ H hW => ?_⟩
    obtain ⟨F2, ρ2, sf2, R2, hle, rfl, P2⟩ := hW
    obtain ⟨j1, j2⟩ := hJ C F2 H ρ2 σ sf2 R2
    by_cases hi : i < ds.length
    · rw [List.drop_eq_getElem_cons hi] at P2
      obtain ⟨go, y⟩ := j1 i ds[i] (List.getElem?_eq_getElem hi)
      refine .inr ⟨go, fun σ' H' => ∃ F3 ρ3, Same F1 F3 ∧ Rel g C F3 H' ρ3 σ' ∧ postS g C F3 Z N (forL gt s1 (ds.drop (i + 1)) ρ3), fun σ' H' ⟨F3, ρ3, s3, R3, P3⟩ => ⟨ds.length - (i + 1), by omega, F3, ρ3, s3, R3, hi, rfl, P3⟩, fun x H2 hy => ?_⟩
      obtain ⟨F3, s3, R3, r3⟩ := y x H2 hy
      refine ⟨C, F3, ρ2, ds[i], R3, r3, ?_⟩
      simp only [forL] at P2
      cases e4 : gt ds[i] ρ2 with
      | none => rw [e4] at P2; exact P2.elim
      | some ρ4 =>
        rw [e4] at P2
        refine fun σ4 R4 _ => ⟨C, F3, ρ4, R4, ?_⟩
        simp only at P2
        cases e5 : s1 ρ4 with
        | nx ρ' => rw [e5] at P2; exact fun F' H' σ' s R' => ⟨F', ρ', (sf2.trans s3).trans s, R', P2.mono (s3.trans s)⟩
        | ct ρ' => rw [e5] at P2; exact fun F' H' σ' s R' => ⟨F', ρ', (sf2.trans s3).trans s, R', P2.mono (s3.trans s)⟩
        | bk ρ' => rw [e5] at P2; exact P2.mono s3
        | rt w ρ' => rw [e5] at P2; exact P2.mono s3
        | ex x ρ' => rw [e5] at P2; exact P2.mono s3
        | bad => rw [e5] at P2; exact P2
    · refine .inl ⟨j2 i (by omega), ?_⟩
      rw [List.drop_eq_nil_of_le (by omega)] at P2
      exact P2 F2 H σ (Same.refl F2) R2
end

/-! ### [e for x in .. if ..] -/
def Z0 : WX := fun _ _ _ _ => False
def canU (ρ : Rho) (v : Nat) : Bool := !isOwn ρ[v]?
/-- a comprehension's own names are forgotten -/
def wipeR : List Nat → Rho → Option Rho
  | [], ρ => some ρ
  | v :: vs, ρ => (wipeR vs ρ).bind fun ρ' => if canU ρ' v then some (ρ'.set v .un) else none
def lcL (gt : Gv) (c : Tv) (f : Ev) (vs : List Nat) : List D → List D → Rho → Out (List D)
  | [], acc, ρ => .ok acc ρ
  | d :: ds, acc, ρ => match gt d ρ with
    | none => .bad
    | some ρ1 => match c ρ1 with
      | .ok true ρ2 => (match f ρ2 with
        | .ok w ρ3 => (match (fzW w).bind fun w' => grab w' ρ3 with
          | some (d', ρ4) => if acc.length < sizeLine then (match wipeR vs ρ4 with | some ρ5 => lcL gt c f vs ds (acc ++ [d']) ρ5 | none => .bad) else .bad
          | none => .bad)
        | _ => .bad)
      | .ok false ρ2 => (match wipeR vs ρ2 with | some ρ5 => lcL gt c f vs ds acc ρ5 | none => .bad)
      | _ => .bad
def lcE (fi : Iv) (gt : Gv) (c : Tv) (f : Ev) (vs : List Nat) : Ev := fun ρ => match fi ρ with
  | .ok ds ρ1 => (match wipeR vs ρ1 with
    | some ρ2 => (match lcL gt c f vs ds [] ρ2 with | .ok acc ρ3 => .ok (.new (.lst acc)) ρ3 | _ => .bad)
    | none => .bad)
  | .ex e ρ' => .ex e ρ'
  | .bad => .bad
section
variable {g : G} {C : RC} {F F' H H' : Hp} {ρ ρ' : Rho} {σ σ' : St} {Z : WX} {X : Cx}
theorem Rel.swap (R : Rel g C F H ρ σ) (hl : σ.length = σ'.length) (h : ∀ i : Nat, σ[i]? = σ'[i]? ∨ ρ[i]? = some .un) : Rel g C F H ρ σ' where
  len := R.len.trans hl
  sub := R.sub
  subB := R.subB
  grow := R.grow
  tab := R.tab
  noTF := R.noTF
  noTB := R.noTB
  val := fun i d e => by
    obtain ⟨v, h1, h2⟩ := R.val i d e
    rcases h i with z | z
    · exact ⟨v, z ▸ h1, h2⟩
    · rw [e] at z; cases z
  own := fun i p o e => by
    obtain ⟨a, h1, h2⟩ := R.own i p o e
    rcases h i with z | z
    · exact ⟨a, z ▸ h1, h2⟩
    · rw [e] at z; cases z
  inj := fun i j a e1 e2 e3 e4 => by
    rcases h i with z | z
    · rcases h j with z' | z'
      · exact R.inj i j a e1 e2 (z.trans e3) (z'.trans e4)
      · rw [z'] at e2; cases e2
    · rw [z] at e1; cases e1
  anc := fun p hp => by
    obtain ⟨o, h1, h2⟩ := R.anc p hp
    rcases h p.1 with z | z
    · exact ⟨o, h1, z ▸ h2⟩
    · rw [h1] at z; cases z
theorem wipeR_ok : ∀ {vs : List Nat} {ρ ρ' : Rho}, Rel g C F H ρ σ → wipeR vs ρ = some ρ' → Rel g C F H ρ' (wipe σ vs) ∧ ∀ v ∈ vs, v < ρ'.length → ρ'[v]? = some .un
  | [], ρ, ρ', R, e => by
    cases e
    exact ⟨R, by simp⟩
  | v :: vs, ρ, ρ', R, e => by
    simp only [wipeR] at e
    obtain ⟨ρ1, h1, h2⟩ := Option.bind_eq_some_iff.mp e
    obtain ⟨R1, u1⟩ := wipeR_ok R h1
    split at h2
    · rename_i hc
      cases h2
      refine ⟨R1.setU (v := none) (fun u z => by unfold canU isOwn at hc; rw [z] at hc; cases hc), fun w hw hl => ?_⟩
      by_cases hvw : v = w
      · subst hvw
        rw [List.length_set] at hl
        exact List.getElem?_set_self hl
      · rw [List.getElem?_set_ne hvw]
        rw [List.length_set] at hl
        rcases List.mem_cons.mp hw with z | z
        · exact absurd z.symm hvw
        · exact u1 w z hl
    · cases h2
/-- the list that grows is kept from outside meanwhile -/
structure LcSt (g : G) (C : RC) (F H : Hp) (ρ : Rho) (σ : St) (p : Addr) (acc : List D) : Prop where
  rel : Rel g C F H ρ σ
  at_ : ∃ vs, H p = some (.lst vs) ∧ RpL g F acc vs
  nF : F p = none
  nB : C.B p = none
  nO : ∀ i : Nat, isOwn ρ[i]? = true → σ[i]? ≠ some (some (.ref p))
theorem LcSt.new {p : Addr} {acc : List D} (L : LcSt g C F H ρ σ p acc) : RpW g C F H ρ σ (.new (.lst acc)) (.ref p) := ⟨p, rfl, L.at_, L.nF, L.nB, L.nO⟩
theorem LcSt.hold {p : Addr} {acc : List D} (L : LcSt g C F H ρ σ p acc) : ∃ vs, H p = some (.lst vs) ∧ RpL g F acc vs ∧ Rel g (C.hold F p (.lst vs)) F H ρ σ := by
  obtain ⟨vs, h1, h2⟩ := L.at_
  obtain ⟨o, ho, R⟩ := L.rel.hold L.new
  rw [h1] at ho
  cases ho
  exact ⟨vs, h1, h2, R⟩
theorem LcSt.back {p : Addr} {acc : List D} {vs : List V} (L : LcSt g C F H ρ σ p acc) (h1 : H p = some (.lst vs)) (s : Same F F') (R : Rel g (C.hold F p (.lst vs)) F' H' ρ' σ') : LcSt g C F' H' ρ' σ' p acc := by
  obtain ⟨a, e, r1, r2, r3, r4⟩ := L.new.held s h1 R
  cases e
  exact ⟨L.rel.unhold L.nB R, r1, r2, r3, r4⟩
theorem Rel.poke {p : Addr} {vs ws : List V} (R : Rel g C F H ρ σ) (h : H p = some (.lst vs)) (nF : F p = none) (nB : C.B p = none) (nO : ∀ i : Nat, isOwn ρ[i]? = true → σ[i]? ≠ some (some (.ref p))) : Rel g C F (upd H p (.lst ws)) ρ σ where
  len := R.len
  sub := fun b u e => by rw [upd_ne (fun z => by rw [z, nF] at e; cases e)]; exact R.sub b u e
  subB := fun b u e => by rw [upd_ne (fun z => by rw [z, nB] at e; cases e)]; exact R.subB b u e
  grow := R.grow
  tab := by
    intro q hq
    obtain ⟨ps, e1, e2, e3⟩ := R.tab q hq
    refine ⟨ps, ?_, e2, fun pos cv hc => ?_⟩
    · rw [upd_ne (fun z => by rw [z, h] at e1; cases e1)]; exact e1
    · obtain ⟨c, f1, f2⟩ := e3 pos cv hc
      refine ⟨c, f1, ?_⟩
      rw [upd_ne (fun z => ?_)]
      · exact f2
      · rw [z, h] at f2; unfold LamX.CodeO at f2; cases f2
  noTF := R.noTF
  noTB := R.noTB
  val := R.val
  own := fun i q o e => by
    obtain ⟨a, h1, h2, h3, h4⟩ := R.own i q o e
    have hb : a ≠ p := fun z => nO i (by rw [e]; rfl) (by rw [h1, z])
    exact ⟨a, h1, h2.mono (Same.refl F) (upd_ne hb), h3, h4⟩
  inj := R.inj
  anc := R.anc
theorem LcSt.push {p : Addr} {acc : List D} {vs : List V} {d : D} {y : V} (L : LcSt g C F H ρ σ p acc) (h1 : H p = some (.lst vs)) (h2 : RpL g F acc vs) (r : Rp g F d y) : LcSt g C F (upd H p (.lst (vs ++ [y]))) ρ σ p (acc ++ [d]) :=
  ⟨L.rel.poke h1 L.nF L.nB L.nO, ⟨_, upd_same, h2.append (.cons r .nil)⟩, L.nF, L.nB, L.nO⟩
theorem LcSt.same {p : Addr} {acc : List D} (L : LcSt g C F H ρ σ p acc) (R : Rel g C F H ρ' σ') (h : ∀ i : Nat, isOwn ρ'[i]? = true → isOwn ρ[i]? = true ∧ σ'[i]? = σ[i]?) : LcSt g C F H ρ' σ' p acc :=
  ⟨R, L.at_, L.nF, L.nB, fun i hi e => L.nO i (h i hi).1 ((h i hi).2 ▸ e)⟩
theorem wipeR_own : ∀ {vs : List Nat} {ρ ρ' : Rho}, wipeR vs ρ = some ρ' → ∀ i : Nat, isOwn ρ'[i]? = true → isOwn ρ[i]? = true ∧ i ∉ vs
  | [], ρ, ρ', e, i, h => by
    cases e
    exact ⟨h, by simp⟩
  | v :: vs, ρ, ρ', e, i, h => by
    simp only [wipeR] at e
    obtain ⟨ρ1, h1, h2⟩ := Option.bind_eq_some_iff.mp e
    split at h2
    · cases h2
      by_cases hv : v = i
      · subst hv
        by_cases hl : v < ρ1.length
        · rw [List.getElem?_set_self hl] at h; cases h
        · rw [List.getElem?_eq_none (by rw [List.length_set]; omega)] at h; cases h
      · rw [List.getElem?_set_ne hv] at h
        obtain ⟨a, b⟩ := wipeR_own h1 i h
        exact ⟨a, fun z => (List.mem_cons.mp z).elim (fun q => hv q.symm) b⟩
    · cases h2
theorem LcSt.wiped {p : Addr} {acc : List D} {vs : List Nat} (L : LcSt g C F H ρ σ p acc) (e : wipeR vs ρ = some ρ') : LcSt g C F H ρ' (wipe σ vs) p acc :=
  L.same (wipeR_ok L.rel e).1 fun i hi => ⟨(wipeR_own e i hi).1, by rw [wipe_get]; simp [(wipeR_own e i hi).2]⟩

variable {fi : Iv} {gt : Gv} {ct : Tv} {el : Ev} {vs is : List Nat}
theorem lc_use (his : ∀ j ∈ is, j ∈ vs) {Q : VK} (h : tE g Z (lcE fi gt ct el vs) σ H Q) : tLc (tI g Z fi) (tG g is gt) (tT g Z0 ct) (tE g Z0 el) vs σ H Q := by
  obtain ⟨C, F, ρ, R, P⟩ := h
  refine ⟨C, F, ρ, R, ?_⟩
  unfold lcE at P
  cases e : fi ρ with
  | bad => rw [e] at P; exact P
  | ex x ρ' => rw [e] at P; exact P
  | ok ds ρ1 =>
    rw [e] at P
    simp only at P
    intro F1 H1 s1 R1 J hJ p hp
    cases ew : wipeR vs ρ1 with
    | none => simp only [ew] at P; exact P.elim
    | some ρ2 =>
      simp only [ew] at P
      have L1 : LcSt g C F1 (upd H1 p (.lst [])) ρ1 σ p [] := ⟨R1.alloc hp, ⟨[], upd_same, .nil⟩, none_of_same R1.sub hp, none_of_same R1.subB hp, R1.newAt hp⟩
      have L2' := L1.wiped ew
      have fin : ∀ {ρ' : Rho}, (∀ v ∈ vs, v < ρ'.length → ρ'[v]? = some .un) → ρ'.length = σ.length → ∀ i : Nat, (wipe σ vs)[i]? = σ[i]? ∨ ρ'[i]? = some .un := fun {ρ'} hu hl i => by
        rw [wipe_get]
        by_cases hv : i ∈ vs ∧ i < σ.length
        · exact .inr (hu i hv.1 (by rw [hl]; exact hv.2))
        · exact .inl (if_neg hv)
      refine ⟨fun i m H => ∃ F2 ρ2 acc, Same F1 F2 ∧ LcSt g C F2 H ρ2 (wipe σ vs) p acc ∧ (∀ v ∈ vs, v < ρ2.length → ρ2[v]? = some .un) ∧ i ≤ ds.length ∧ m = ds.length - i ∧ postE g C F2 σ Z Q (match lcL gt ct el vs (ds.drop i) acc ρ2 with | .ok acc ρ3 => .ok (.new (.lst acc)) ρ3 | _ => .bad),
        ⟨_, F1, ρ2, [], Same.refl F1, L2', (wipeR_ok R1 ew).2, Nat.zero_le _, rfl, P.mono s1⟩, fun i m H hW => ?_⟩
      obtain ⟨F2, ρ3, acc, sf2, L, hu, hle, rfl, P2⟩ := hW
      obtain ⟨ws, h1, h2, Rh⟩ := L.hold
      obtain ⟨j1, j2⟩ := hJ _ F2 H ρ3 (wipe σ vs) sf2 Rh
      by_cases hi : i < ds.length
      · rw [List.drop_eq_getElem_cons hi] at P2
        obtain ⟨go, y⟩ := j1 i ds[i] (List.getElem?_eq_getElem hi)
        refine .inr ⟨go, fun H' => ∃ F3 ρ3 acc, Same F1 F3 ∧ LcSt g C F3 H' ρ3 (wipe σ vs) p acc ∧ (∀ v ∈ vs, v < ρ3.length → ρ3[v]? = some .un) ∧ postE g C F3 σ Z Q (match lcL gt ct el vs (ds.drop (i + 1)) acc ρ3 with | .ok acc ρ3 => .ok (.new (.lst acc)) ρ3 | _ => .bad),
          fun H' ⟨F3, ρ3, acc, s3, L3, u3, P3⟩ => ⟨ds.length - (i + 1), by omega, F3, ρ3, acc, s3, L3, u3, hi, rfl, P3⟩, fun x H' hy => ?_⟩
        obtain ⟨F3, s3, R3, r3⟩ := y x H' hy
        refine ⟨_, F3, ρ3, ds[i], R3, r3, ?_⟩
        simp only [lcL] at P2
        cases e4 : gt ds[i] ρ3 with
        | none => rw [e4] at P2; exact P2.elim
        | some ρ4 =>
          rw [e4] at P2
          simp only at P2
          refine fun σ4 R4 but => ?_
          have hw4 : wipe σ4 vs = wipe σ vs := by
            rw [(but.mono his).wipes]
            exact (But.wipe (vs := vs) (σ := σ)).wipes
          refine ⟨hw4, _, F3, ρ4, R4, ?_⟩
          cases e5 : ct ρ4 with
          | bad => rw [e5] at P2; exact P2.elim
          | ex x ρ' => rw [e5] at P2; exact P2.elim
          | ok b ρ5 =>
            rw [e5] at P2
            intro F5 H5 s5 R5
            cases b with
            | false =>
              try simp only at P2
              cases e6 : wipeR vs ρ5 with
              | none => simp only [e6] at P2; exact P2.elim
              | some ρ6 =>
                simp only [e6] at P2
                have L5 := (L.back h1 (s3.trans s5) R5).wiped e6
                rw [hw4] at L5
                exact ⟨F5, ρ6, acc, sf2.trans (s3.trans s5), L5, (wipeR_ok R5 e6).2, P2.mono (s3.trans s5)⟩
            | true =>
              try simp only at P2
              refine ⟨_, F5, ρ5, R5, ?_⟩
              cases e6 : el ρ5 with
              | bad => simp only [e6] at P2; exact P2.elim
              | ex x ρ' => simp only [e6] at P2; exact P2.elim
              | ok w ρ6 =>
                simp only [e6] at P2
                intro F6 H6 s6 R6 v r6
                cases e7 : (fzW w).bind fun w' => grab w' ρ6 with
                | none => simp only [e7] at P2; exact P2.elim
                | some q =>
                  obtain ⟨d', ρ7⟩ := q
                  simp only [e7] at P2
                  obtain ⟨w', e8, e9⟩ := Option.bind_eq_some_iff.mp e7
                  obtain ⟨F7, s7, R7, r7, n7⟩ := frozen R6 r6 e8
                  obtain ⟨F8, s8, R8, h8⟩ := grab_ok R7 r7 e9
                  by_cases hz : acc.length < sizeLine
                  · simp only [hz, if_true] at P2
                    have ss := s3.trans (s5.trans (s6.trans (s7.trans s8)))
                    have L8 := L.back h1 ss R8
                    have at8 : H6 p = some (.lst ws) := R8.subB p (.lst ws) upd_same
                    have L9 := L8.push at8 (h2.mono ss) h8
                    cases e10 : wipeR vs ρ7 with
                    | none => rw [e10] at P2; exact P2.elim
                    | some ρ8 =>
                      rw [e10] at P2
                      have L10 := L9.wiped e10
                      rw [hw4] at L10
                      exact ⟨ws, at8, by rw [← h2.length]; exact hz, F8, ρ8, _, sf2.trans ss, L10, (wipeR_ok R8 e10).2, P2.mono ss⟩
                  · simp only [hz, if_false] at P2
                    exact P2.elim
      · refine .inl ⟨j2 i (by omega), ?_⟩
        rw [List.drop_eq_nil_of_le (by omega)] at P2
        have hl : ρ3.length = σ.length := by rw [L.rel.len, wipe_length]
        have R9 := L.rel.swap (σ' := σ) (wipe_length σ vs) (fin hu hl)
        have L9 := L.same R9 fun j hj => ⟨hj, by
          rcases fin hu hl j with z | z
          · exact z.symm
          · rw [z] at hj; cases hj⟩
        exact P2 F2 H (Same.refl F2) R9 _ L9.new
variable {elt tg iter : Expr} {ifs : List Expr} {scope : Scope} {own : List (Str × Nat)} {pos : Pos}
theorem fts_nil : PTs X [] (tT g Z (okT true)) := ⟨fun pins s σ H Q I ⟨C, F, ρ, R, P⟩ => pts_nil.run pins s σ H Q I (P F H (Same.refl F) R)⟩
theorem fts_one {c : Expr} {t : Tv} (h : FT g X Z c t) : PTs X [c] (tT g Z t) := pts_one h
theorem fe_lc (hc : X.calm = true) (hN : X.N.Nodup) (hi : FI g X Z tg iter fi) (ok : BlkOk X.N X.env.scope scope own) (hg : ∀ (s : Shared) (H : Hp) (C : Addr) (cl : List (Str × Addr)) (fp : List Addr), FG g (X.blk s H scope (compEnvC scope cl C X.env) fp) tg is gt)
    (ht : ∀ (s : Shared) (H : Hp) (C : Addr) (cl : List (Str × Addr)) (fp : List Addr), PTs (X.blk s H scope (compEnvC scope cl C X.env) fp) ifs (tT g Z0 ct)) (he : ∀ (s : Shared) (H : Hp) (C : Addr) (cl : List (Str × Addr)) (fp : List Addr), FE g (X.blk s H scope (compEnvC scope cl C X.env) fp) Z0 elt el)
    (his : ∀ j ∈ is, j ∈ own.map (·.2) := by decide) (hs : ∀ x, foldedSetIterable iter X.env x = pure x := by intro _; rfl) : FE g X Z (.ListComp elt [⟨tg, iter, ifs, 0⟩] scope pos) (lcE fi gt ct el (own.map (·.2))) :=
  pe_imp (pe_lc hc hN hi ok hg ht he hs) fun σ H Q h => lc_use his h
theorem fs_setLc {y : Str} {py spos : Pos} (i : Nat) (hc : X.calm = true) (hN : X.N.Nodup) (hi : FI g X Z tg iter fi) (ok : BlkOk X.N X.env.scope scope own) (hg : ∀ (s : Shared) (H : Hp) (C : Addr) (cl : List (Str × Addr)) (fp : List Addr), FG g (X.blk s H scope (compEnvC scope cl C X.env) fp) tg is gt)
    (ht : ∀ (s : Shared) (H : Hp) (C : Addr) (cl : List (Str × Addr)) (fp : List Addr), PTs (X.blk s H scope (compEnvC scope cl C X.env) fp) ifs (tT g Z0 ct)) (he : ∀ (s : Shared) (H : Hp) (C : Addr) (cl : List (Str × Addr)) (fp : List Addr), FE g (X.blk s H scope (compEnvC scope cl C X.env) fp) Z0 elt el)
    (hsw : swapsWith (.ListComp elt [⟨tg, iter, ifs, 0⟩] scope pos) (some (.Name y py)) spos.line X.env = pure true) (hy : X.N[i]? = some y := by rfl) (hyl : X.env.scope.names.lookup y = some .local := by rfl) (his : ∀ j ∈ is, j ∈ own.map (·.2) := by decide) (hs : ∀ x, foldedSetIterable iter X.env x = pure x := by intro _; rfl) :
    FS g X Z (.Assign [.Name y py] (.ListComp elt [⟨tg, iter, ifs, 0⟩] scope pos) spos) (setF i (lcE fi gt ct el (own.map (·.2)))) :=
  ps_imp (ps_setLc hc hN hy hyl hsw hi ok hg ht he hs) fun N σ H ⟨C, F, ρ, R, P⟩ => lc_use his (postS_bind (Z' := Z) R P fun F1 H1 ρ1 w v s1 R1 r1 n1 P1 => toNx_use R1 r1 P1)
theorem fs_setLcN {y : Str} {py spos : Pos} (i : Nat) (hc : X.calm = true) (hN : X.N.Nodup) (hi : FI g X Z tg iter fi) (ok : BlkOk X.N X.env.scope scope own) (hg : ∀ (s : Shared) (H : Hp) (C : Addr) (cl : List (Str × Addr)) (fp : List Addr), FG g (X.blk s H scope (compEnvC scope cl C X.env) fp) tg is gt)
    (ht : ∀ (s : Shared) (H : Hp) (C : Addr) (cl : List (Str × Addr)) (fp : List Addr), PTs (X.blk s H scope (compEnvC scope cl C X.env) fp) ifs (tT g Z0 ct)) (he : ∀ (s : Shared) (H : Hp) (C : Addr) (cl : List (Str × Addr)) (fp : List Addr), FE g (X.blk s H scope (compEnvC scope cl C X.env) fp) Z0 elt el)
    (hsw : swapsWith (.ListComp elt [⟨tg, iter, ifs, 0⟩] scope pos) (some (.Name y py)) spos.line X.env = pure true) (hy : X.N[i]? = some y := by rfl) (hyl : X.env.scope.names.lookup y = some .local := by rfl) (his : ∀ j ∈ is, j ∈ own.map (·.2) := by decide) (hs : ∀ x, foldedSetIterable iter X.env x = pure x := by intro _; rfl) :
    FS g X Z (.Assign [.Name y py] (.ListComp elt [⟨tg, iter, ifs, 0⟩] scope pos) spos) (setN i (lcE fi gt ct el (own.map (·.2)))) :=
  ps_imp (ps_setLc hc hN hy hyl hsw hi ok hg ht he hs) fun N σ H ⟨C, F, ρ, R, P⟩ => lc_use his (postN_bind R P fun F1 H1 ρ1 w v s1 R1 r1 P1 => toNx_use R1 r1 P1)
end

/-! ### a slot's own list is changed -/
def appS (i : Nat) (f : Ev) : Sv := bindS f fun w ρ => match grab w ρ with
  | some (d, ρ1) => (match ρ1[i]? with
    | some (.own p (.lst l)) => if l.length < sizeLine then .nx (ρ1.set i (.own p (.lst (l ++ [d])))) else .bad
    | _ => .bad)
  | none => .bad
def isOwnL : Option Cell → Bool
  | some (.own _ (.lst _)) => true
  | _ => false
/-- x.append(e): x is asked first -/
def appSt (i : Nat) (f : Ev) : Sv := fun ρ => if isOwnL ρ[i]? then appS i f ρ else .bad
/-- x[k] = e -/
def setIx (i : Nat) (fk f : Ev) : Sv := bindS f fun w => bindS fk fun wk ρ => match grab w ρ with
  | some (d, ρ1) => (match wk, ρ1[i]? with
    | .val (.int k), some (.own p (.lst l)) => (match ixN l.length k with
      | some j => .nx (ρ1.set i (.own p (.lst (l.set j d))))
      | none => .bad)
    | _, _ => .bad)
  | none => .bad
def setIxS (i : Nat) (fk f : Ev) : Sv := bindS f fun w ρ => if isOwnL ρ[i]? then setIx i fk (fun ρ' => .ok w ρ') ρ else .bad
/-- x.pop() -/
def popE (i : Nat) : Ev := fun ρ => match ρ[i]? with
  | some (.own p (.lst l)) => (match l[l.length - 1]? with
    | some d => .ok (.val d) (ρ.set i (.own p (.lst l.dropLast)))
    | none => .bad)
  | _ => .bad
section
variable {g : G} {C : RC} {F F' H H' : Hp} {ρ ρ' : Rho} {σ σ' : St} {Z : WX} {X : Cx} {e k : Expr} {fa fk : Ev} {x : Str} {p1 apos cpos pos : Pos}
theorem own_list (R : Rel g C F H ρ σ) {i : Nat} (h : isOwnL ρ[i]? = true) : ∃ q l a vs, ρ[i]? = some (.own q (.lst l)) ∧ σ[i]? = some (some (.ref a)) ∧ H a = some (.lst vs) ∧ RpL g F l vs := by
  unfold isOwnL at h
  split at h
  · rename_i q l e
    obtain ⟨a, h1, ⟨vs, h2, h3⟩, _⟩ := R.own _ _ _ e
    exact ⟨q, l, a, vs, e, h1, h2, h3⟩
  · cases h
theorem fs_app (i : Nat) (he : FE g X Z e fa) (hN : X.N[i]? = some x := by rfl) (hv : Vis X.env.scope x := by first | exact Or.inl rfl | exact Or.inr (Or.inl rfl) | exact Or.inr (Or.inr rfl)) (hd : (x == ("__debug__" : Str)) = false := by decide) (hcd : (x == ("__classdict__" : Str)) = false := by decide)
    (hbase : attributeBase (.Name x p1) "append" X.env (eval (.Name x p1) X.env) = eval (.Name x p1) X.env := by rfl)
    (hfew : ((backTo cpos (starEach [e] X.env)).all (fun x => !x.1) && (backToKw cpos (keywordEach [] X.env)).all (fun x => x.1.isSome) && decide (([e] : List Expr).length + ([] : List Keyword).length + (if ([] : List Keyword).isEmpty then 0 else 1) < 30)) = true := by rfl)
    (hline : (apos.endLine == cpos.line) = true := by rfl) (hs : starEach [e] X.env = (false, eval e X.env) :: starEach [] X.env := by rfl) (hplain : (backTo cpos (starEach [] X.env)).any (·.1) = false := by rfl) (hsw : swapsWith (.Call (.Attribute (.Name x p1) "append" apos) [e] [] cpos) none pos.line X.env = pure false := by rfl) :
    FS g X Z (.Expr (.Call (.Attribute (.Name x p1) "append" apos) [e] [] cpos) pos) (appSt i fa) :=
  ps_imp (ps_expr (pe_bm PySem.F.plainAttrs_list PySem.F.slot_list_append PySem.F.type_list_append mt_append (pe_var hN hv hd hcd) (pa_cons he pa_nil hs) hbase hfew hline hs hplain) hsw) fun N σ H ⟨C, F, ρ, R, P⟩ => by
    unfold appSt at P
    split at P
    · rename_i ho
      obtain ⟨q, l, a, vs, e1, h1, h2, h3⟩ := own_list R ho
      refine ⟨.ref a, h1, .inl ⟨rfl, vs, .inl (.inl h2)⟩, ?_⟩
      refine postS_bind (Z' := Z) R P fun F1 H1 ρ1 w v s1 R1 r1 n1 P1 => ?_
      cases e2 : grab w ρ1 with
      | none => simp only [e2] at P1; exact P1.elim
      | some q2 =>
        obtain ⟨d, ρ2⟩ := q2
        simp only [e2] at P1
        obtain ⟨F2, s2, R2, r2⟩ := grab_ok R1 r1 e2
        split at P1
        · rename_i q3 l3 e3
          split at P1
          · rename_i hz
            obtain ⟨a', g1, ⟨vs', g2, g3⟩, g4, g5⟩ := R2.own i _ _ e3
            rw [h1] at g1; cases g1
            refine ⟨a, vs', v, rfl, rfl, g2, by rw [← g3.length]; exact hz, ?_⟩
            have R3 := R2.write (u' := .lst (l3 ++ [d])) (o := .lst (vs' ++ [v])) e3 h1 (fun ps z => by cases z) ⟨_, upd_same, g3.append (.cons r2 .nil)⟩
            exact P1 F2 _ σ s2 R3
          · exact P1.elim
        · exact P1.elim
    · exact P.elim
theorem fs_setIx (i : Nat) (hk : FE g X Z k fk) (he : FE g X Z e fa) (hN : X.N[i]? = some x := by rfl) (hv : Vis X.env.scope x := by first | exact Or.inl rfl | exact Or.inr (Or.inl rfl) | exact Or.inr (Or.inr rfl)) (hd : (x == ("__debug__" : Str)) = false := by decide) (hcd : (x == ("__classdict__" : Str)) = false := by decide)
    (ha : ∀ v, assign (.Subscript (.Name x p1) k apos) X.env v = (do
      let ov ← holding [v] (eval (.Name x p1) X.env)
      let iv ← holding [v, ov] (eval k X.env)
      standAt apos
      holding [v, ov, iv] (setItem ov iv v)
      release [v, ov, iv] []) := by intro _; rfl)
    (hs : swapsWithSole [.Subscript (.Name x p1) k apos] e pos.line X.env = pure false := by rfl) (hw : swappedStores [.Subscript (.Name x p1) k apos] e X.env = pure none := by rfl)
    (h1 : (assignEach [.Subscript (.Name x p1) k apos] X.env).map (·.2) = [assign (.Subscript (.Name x p1) k apos) X.env] := by rfl) :
    FS g X Z (.Assign [.Subscript (.Name x p1) k apos] e pos) (setIxS i fk fa) :=
  ps_imp (ps_asg he (pg_sub (pe_var hN hv hd hcd) hk set_list ha) hs hw h1) fun N σ H ⟨C, F, ρ, R, P⟩ => postS_bind (Z' := Z) R P fun F1 H1 ρ1 w v s1 R1 r1 n1 P1 => by
    split at P1
    · rename_i ho
      obtain ⟨q, l, a, vs, e1, hσ, h2, h3⟩ := own_list R1 ho
      refine ⟨.ref a, hσ, ?_⟩
      unfold setIx at P1
      have P1' : postS g C F1 Z N (bindS fk (fun wk ρ => match grab w ρ with
          | some (d, ρ1) => (match wk, ρ1[i]? with
            | .val (.int k), some (.own p (.lst l)) => (match ixN l.length k with
              | some j => .nx (ρ1.set i (.own p (.lst (l.set j d))))
              | none => .bad)
            | _, _ => .bad)
          | none => .bad) ρ1) := by
        cases w with
        | new o => cases n1
        | val d => exact P1
        | bor j => exact P1
      refine postS_bind (Z' := Z) R1 P1' fun F2 H2 ρ2 wk vk s2 R2 r2 n2 P2 => ?_
      cases e2 : grab w ρ2 with
      | none => simp only [e2] at P2; exact P2.elim
      | some q2 =>
        obtain ⟨d, ρ3⟩ := q2
        simp only [e2] at P2
        obtain ⟨F3, s3, R3, r3⟩ := grab_ok R2 (r1.mono (H' := H2) (ρ' := ρ2) s2 n1) e2
        split at P2
        · rename_i z q3 l3 e3
          split at P2
          · rename_i j hj
            obtain ⟨a', g1, ⟨vs', g2, g3⟩, g4, g5⟩ := R3.own i _ _ e3
            rw [hσ] at g1; cases g1
            cases r2
            refine ⟨a, vs', z, j, rfl, rfl, g2, by rw [← g3.length]; exact hj, ?_⟩
            have R4 := R3.write (u' := .lst (l3.set j d)) (o := .lst (vs'.set j v)) e3 hσ (fun ps z => by cases z) ⟨_, upd_same, RpL.set r3 j g3⟩
            exact P2 F3 _ σ s3 R4
          · exact P2.elim
        · exact P2.elim
    · exact P1.elim
theorem fe_pop (i : Nat) (hN : X.N[i]? = some x := by rfl) (hv : Vis X.env.scope x := by first | exact Or.inl rfl | exact Or.inr (Or.inl rfl) | exact Or.inr (Or.inr rfl)) (hd : (x == ("__debug__" : Str)) = false := by decide) (hcd : (x == ("__classdict__" : Str)) = false := by decide)
    (hbase : attributeBase (.Name x p1) "pop" X.env (eval (.Name x p1) X.env) = eval (.Name x p1) X.env := by rfl) (hline : (apos.endLine == cpos.line) = true := by rfl) : FE g X Z (.Call (.Attribute (.Name x p1) "pop" apos) [] [] cpos) (popE i) :=
  pe_imp (pe_bm0 PySem.F.plainAttrs_list PySem.F.slot_list_pop PySem.F.type_list_pop mt_pop (pe_var hN hv hd hcd) hbase hline) fun σ H Q ⟨C, F, ρ, R, P⟩ => by
    unfold popE at P
    split at P
    · rename_i q l e1
      split at P
      · rename_i d hd
        obtain ⟨a, h1, ⟨vs, h2, h3⟩, h4, h5⟩ := R.own i _ _ e1
        obtain ⟨v, hv1, hv2⟩ := h3.get hd
        refine ⟨.ref a, h1, .inl ⟨rfl, vs, .inl (.inl h2)⟩, a, vs, v, rfl, rfl, h2, by rw [← h3.length]; exact hv1, ?_⟩
        have R3 := R.write (u' := .lst l.dropLast) (o := .lst vs.dropLast) e1 h1 (fun ps z => by cases z) ⟨_, upd_same, h3.dropLast⟩
        exact P F _ (Same.refl F) R3 v hv2
      · exact P.elim
    · exact P.elim
end
end FX
namespace FX
open PySem PySem.Spec PyProof.Rows L2

/-! ### a def by its body -/
def argC : Cell → Cell
  | .own _ o => .own true o
  | c => c
def startR (cs : List Cell) (nl : Nat) : Rho := cs.map argC ++ List.replicate nl .un
/-- the arguments behind the body -/
def backC (c : Cell) (o : Option Cell) : Option Cell := match c with
  | .own p _ => (match o with | some (.own true o') => some (.own p o') | _ => none)
  | c => some c
def backR : List Cell → Nat → Rho → Option (List Cell)
  | [], _, _ => some []
  | c :: cs, i, ρ => match backC c ρ[i]?, backR cs (i + 1) ρ with
    | some c', some cs' => some (c' :: cs')
    | _, _ => none
def retW (cs : List Cell) (w : Wv) (ρ : Rho) : Option Wv := match w with
  | .bor i => (match ρ[i]? with
    | some (.own false o) => some (.new o)
    | some (.own true _) => if isOwn cs[i]? then some (.bor i) else none
    | some (.val d) => some (.val d)
    | _ => none)
  | w => some w
def finR (cs : List Cell) : SO → Out Wv
  | .rt w ρ => (match retW cs w ρ, backR cs 0 ρ with
    | some w', some cs' => .ok w' cs'
    | _, _ => .bad)
  | .nx ρ => (match backR cs 0 ρ with
    | some cs' => .ok (.val .non) cs'
    | none => .bad)
  | .ex e ρ => (match backR cs 0 ρ with
    | some cs' => .ex e cs'
    | none => .bad)
  | _ => .bad
def runD (np nl : Nat) (body : Sv) : Ev := fun cs => if cs.length = np then finR cs (body (startR cs nl)) else .bad
/-- what a def of the meaning m promises -/
def spF (g : G) (np : Nat) (m : Ev) : Sp := fun vs H Q E => vs.length = np ∧ ∃ C F cs, C.anch = [] ∧ Rel g C F H cs (vs.map some) ∧ postE g C F (vs.map some) (fun cls d _ H' => E cls d H') Q (m cs)
structure Fn (g : G) (P : Program) (w : World) (base : Heap) (k : Nat) (x : Str) (np : Nat) (m : Ev) : Prop where
  ex : ∃ (f : Addr) (fd : FuncData) (ps : List Str), FnOk P w g.K g.mg base (L2N.CX P w) k f fd ps (spF g np m) ∧ g.mg x = some (.ref f) ∧ PySem.W.keepIn g.K (.ref f) = true ∧ Binds g.K fd ps []
theorem Fn.mono {g : G} {P : Program} {w : World} {base : Heap} {j k : Nat} {x : Str} {np : Nat} {m : Ev} (h : Fn g P w base j x np m) (hk : j ≤ k) : Fn g P w base k x np m := by
  obtain ⟨f, fd, ps, h1, h2⟩ := h.ex
  exact ⟨f, fd, ps, h1.mono hk, h2⟩

section
variable {g : G} {C : RC} {F F' H H' : Hp} {cs cs' : List Cell} {ρ ρ' : Rho} {σ σ' : St}
theorem map_some_get {vs : List V} {i : Nat} {v : V} : (vs.map some)[i]? = some (some v) ↔ vs[i]? = some v := by
  rw [List.getElem?_map]
  cases vs[i]? <;> simp
def anchs (cs : List Cell) (vs : List V) : List (Nat × Addr) := (List.range cs.length).filterMap fun (i : Nat) => match cs[i]?, vs[i]? with
  | some (.own _ _), some (.ref a) => some (i, a)
  | _, _ => none
theorem mem_anchs {cs : List Cell} {vs : List V} {p : Nat × Addr} : p ∈ anchs cs vs ↔ (∃ q o, cs[p.1]? = some (.own q o)) ∧ vs[p.1]? = some (.ref p.2) := by
  unfold anchs
  rw [List.mem_filterMap]
  constructor
  · rintro ⟨i, hi, e⟩
    split at e
    · rename_i q o a h1 h2
      cases e
      exact ⟨⟨q, o, h1⟩, h2⟩
    · cases e
  · rintro ⟨⟨q, o, h1⟩, h2⟩
    refine ⟨p.1, List.mem_range.mpr (List.getElem?_eq_some_iff.mp h1).1, ?_⟩
    rw [h1, h2]
theorem start_get {nl i : Nat} {vs : List V} {N : List Str} (hl : cs.length = vs.length) (hN : N.length = cs.length + nl) : (i < cs.length → (startR cs nl)[i]? = (cs[i]?).map argC ∧ (L2.start N vs)[i]? = (vs[i]?).map some) ∧ (cs.length ≤ i → (startR cs nl)[i]? = none ∨ (startR cs nl)[i]? = some .un) := by
  refine ⟨fun h => ⟨?_, ?_⟩, fun h => ?_⟩
  · unfold startR
    rw [List.getElem?_append_left (by simpa using h), List.getElem?_map]
  · unfold L2.start
    rw [List.getElem?_append_left (by simp; omega), List.getElem?_map]
  · unfold startR
    rw [List.getElem?_append_right (by simpa using h), List.getElem?_replicate]
    split
    · exact .inr rfl
    · exact .inl rfl
/-- the body's state at the entry -/
theorem Rel.enter {vs : List V} {N : List Str} {nl : Nat} (R : Rel g C F H cs (vs.map some)) (hN : N.length = cs.length + nl) : Rel g { C with anch := anchs cs vs } F H (startR cs nl) (L2.start N vs) := by
  have hl : cs.length = vs.length := by have := R.len; simpa using this
  have old : ∀ (i : Nat) (c : Cell), (startR cs nl)[i]? = some c → c ≠ .un → ∃ c0, cs[i]? = some c0 ∧ c = argC c0 ∧ (L2.start N vs)[i]? = (vs[i]?).map some := fun i c e ne => by
    by_cases hi : i < cs.length
    · obtain ⟨h1, h2⟩ := (start_get (nl := nl) hl hN).1 hi
      rw [h1] at e
      obtain ⟨c0, e0, e1⟩ := Option.map_eq_some_iff.mp e
      exact ⟨c0, e0, e1.symm, h2⟩
    · rcases (start_get (nl := nl) (i := i) hl hN).2 (by omega) with z | z
      · rw [z] at e; cases e
      · rw [z] at e; cases e; exact absurd rfl ne
  have oldO : ∀ i : Nat, isOwn (startR cs nl)[i]? = true → isOwn cs[i]? = true ∧ (L2.start N vs)[i]? = (vs[i]?).map some := fun i e => by
    cases q : (startR cs nl)[i]? with
    | none => rw [q] at e; cases e
    | some c =>
      rw [q] at e
      obtain ⟨c0, h1, h2, h3⟩ := old i c q (fun z => by subst z; cases e)
      refine ⟨?_, h3⟩
      rw [h1]
      subst h2
      cases c0 <;> first | rfl | cases e
  refine ⟨?_, R.sub, R.subB, R.grow, R.tab, R.noTF, R.noTB, fun i d e => ?_, fun i p o e => ?_, fun i j a e1 e2 e3 e4 => ?_, fun p hp => ?_⟩
  · unfold startR L2.start
    simp
    omega
  · obtain ⟨c0, h1, h2, h3⟩ := old i _ e (fun z => by cases z)
    cases c0 with
    | un => cases h2
    | own p o => cases h2
    | val d' =>
      cases h2
      obtain ⟨v, g1, g2⟩ := R.val i d h1
      exact ⟨v, by rw [h3, map_some_get.mp g1]; rfl, g2⟩
  · obtain ⟨c0, h1, h2, h3⟩ := old i _ e (fun z => by cases z)
    cases c0 with
    | un => cases h2
    | val d' => cases h2
    | own p' o' =>
      cases h2
      obtain ⟨a, g1, g2⟩ := R.own i _ _ h1
      exact ⟨a, by rw [h3, map_some_get.mp g1]; rfl, g2⟩
  · obtain ⟨a1, b1⟩ := oldO i e1
    obtain ⟨a2, b2⟩ := oldO j e2
    rw [b1] at e3
    rw [b2] at e4
    exact R.inj i j a a1 a2 (by rw [List.getElem?_map]; exact e3) (by rw [List.getElem?_map]; exact e4)
  · obtain ⟨⟨q, o, h1⟩, h2⟩ := mem_anchs.mp hp
    have hi : p.1 < cs.length := (List.getElem?_eq_some_iff.mp h1).1
    obtain ⟨g1, g2⟩ := (start_get (nl := nl) hl hN).1 hi
    exact ⟨o, by rw [g1, h1]; rfl, by rw [g2, h2]; rfl⟩
theorem backR_get : ∀ {cs cs' : List Cell} {i : Nat} {ρ : Rho}, backR cs i ρ = some cs' → cs'.length = cs.length ∧ ∀ j c, cs[j]? = some c → ∃ c', cs'[j]? = some c' ∧ backC c ρ[i + j]? = some c'
  | [], cs', i, ρ, e => by cases e; exact ⟨rfl, fun j c h => by simp at h⟩
  | c0 :: cs, cs', i, ρ, e => by
    simp only [backR] at e
    split at e
    · rename_i c1 cs1 h1 h2
      cases e
      obtain ⟨l, f⟩ := backR_get h2
      refine ⟨by simp [l], fun j c h => ?_⟩
      cases j with
      | zero =>
        simp at h
        subst h
        exact ⟨c1, rfl, h1⟩
      | succ j =>
        obtain ⟨c', e1, e2⟩ := f j c (by simpa using h)
        refine ⟨c', by simpa using e1, ?_⟩
        rw [show i + (j + 1) = i + 1 + j from by omega]
        exact e2
    · cases e
/-- the arguments' state at the exit -/
theorem Rel.leave {vs : List V} (hA : C.anch = []) (R : Rel g C F H cs (vs.map some)) (s : Same F F') (R' : Rel g { C with anch := anchs cs vs } F' H' ρ' σ') (e : backR cs 0 ρ' = some cs') : Rel g C F' H' cs' (vs.map some) := by
  obtain ⟨hl, hg⟩ := backR_get e
  have at_ : ∀ (i : Nat) (c' : Cell), cs'[i]? = some c' → ∃ c, cs[i]? = some c ∧ backC c ρ'[i]? = some c' := fun i c' h => by
    have hi : i < cs.length := by rw [← hl]; exact (List.getElem?_eq_some_iff.mp h).1
    obtain ⟨c2, e1, e2⟩ := hg i cs[i] (List.getElem?_eq_getElem hi)
    rw [h] at e1; cases e1
    rw [Nat.zero_add] at e2
    exact ⟨_, List.getElem?_eq_getElem hi, e2⟩
  have own' : ∀ (i : Nat) (p : Bool) (o : DO), cs'[i]? = some (.own p o) → (∃ o0, cs[i]? = some (.own p o0)) ∧ ρ'[i]? = some (.own true o) ∧ ∃ a, σ'[i]? = some (some (.ref a)) ∧ vs[i]? = some (.ref a) := fun i p o h => by
    obtain ⟨c, h1, h2⟩ := at_ i _ h
    unfold backC at h2
    cases c with
    | un => cases h2
    | val d => cases h2
    | own p0 o0 =>
      simp only at h2
      split at h2
      · rename_i o1 h3
        cases h2
        obtain ⟨a, g1, _⟩ := R.own i _ _ h1
        obtain ⟨o2, a1, a2⟩ := R'.anc (i, a) (mem_anchs.mpr ⟨⟨_, _, h1⟩, map_some_get.mp g1⟩)
        exact ⟨⟨o0, h1⟩, h3, a, a2, map_some_get.mp g1⟩
      · cases h2
  have isOwn' : ∀ i : Nat, isOwn cs'[i]? = true → isOwn cs[i]? = true := fun i h => by
    cases q : cs'[i]? with
    | none => rw [q] at h; cases h
    | some c =>
      cases c with
      | un => rw [q] at h; cases h
      | val d => rw [q] at h; cases h
      | own p o =>
        obtain ⟨⟨o0, z⟩, _⟩ := own' i p o q
        rw [z]; rfl
  refine ⟨by rw [hl]; exact R.len, R'.sub, R'.subB, R'.grow, R'.tab, R'.noTF, R'.noTB, fun i d h => ?_, fun i p o h => ?_, fun i j a e1 e2 e3 e4 => ?_, fun p hp => ?_⟩
  · obtain ⟨c, h1, h2⟩ := at_ i _ h
    unfold backC at h2
    cases c with
    | un => cases h2
    | val d' =>
      cases h2
      obtain ⟨v, g1, g2⟩ := R.val i d h1
      exact ⟨v, g1, g2.mono s⟩
    | own p0 o0 =>
      simp only at h2
      split at h2 <;> cases h2
  · obtain ⟨_, h2, a, h3, h4⟩ := own' i p o h
    obtain ⟨a', b1, b2⟩ := R'.own i _ _ h2
    rw [h3] at b1; cases b1
    exact ⟨a, map_some_get.mpr h4, b2⟩
  · exact R.inj i j a (isOwn' i e1) (isOwn' j e2) e3 e4
  · rw [hA] at hp
    cases hp
theorem RpW.leave {vs : List V} {w w' : Wv} {v : V} (hA : C.anch = []) (R : Rel g C F H cs (vs.map some)) (s : Same F F') (R' : Rel g { C with anch := anchs cs vs } F' H' ρ' σ') (e : backR cs 0 ρ' = some cs') (hw : retW cs w ρ' = some w') (r : RpW g { C with anch := anchs cs vs } F' H' ρ' σ' w v) : RpW g C F' H' cs' (vs.map some) w' v := by
  have L := Rel.leave hA R s R' e
  have own' : ∀ i : Nat, isOwn cs'[i]? = true → isOwn ρ'[i]? = true ∧ ∃ a, σ'[i]? = some (some (.ref a)) ∧ vs[i]? = some (.ref a) := fun i h => by
    obtain ⟨hl, hg⟩ := backR_get e
    obtain ⟨p, o, a, h1, h2, _⟩ := L.owns h
    have hi : i < cs.length := by rw [← hl]; exact (List.getElem?_eq_some_iff.mp h1).1
    obtain ⟨c2, e1, e2⟩ := hg i cs[i] (List.getElem?_eq_getElem hi)
    rw [h1] at e1; cases e1
    rw [Nat.zero_add] at e2
    unfold backC at e2
    cases q : cs[i] with
    | un => rw [q] at e2; cases e2
    | val d => rw [q] at e2; cases e2
    | own p0 o0 =>
      rw [q] at e2
      simp only at e2
      split at e2
      · rename_i o1 h3
        obtain ⟨o2, a1, a2⟩ := R'.anc (i, a) (mem_anchs.mpr ⟨⟨p0, o0, by rw [List.getElem?_eq_getElem hi, q]⟩, map_some_get.mp h2⟩)
        exact ⟨by rw [h3]; rfl, a, a2, map_some_get.mp h2⟩
      · cases e2
  cases w with
  | val d => cases hw; exact r
  | new o =>
    cases hw
    obtain ⟨a, rfl, r1, r2, r3, r4⟩ := r
    refine ⟨a, rfl, r1, r2, r3, fun i hi z => ?_⟩
    obtain ⟨b1, b, b2, b3⟩ := own' i hi
    rw [map_some_get.mp z] at b3
    cases b3
    exact r4 i b1 b2
  | bor i =>
    have r' : σ'[i]? = some (some v) := r
    simp only [retW] at hw
    split at hw
    · rename_i o h1
      cases hw
      obtain ⟨a, g1, g2, g3, g4⟩ := R'.own i _ _ h1
      rw [r'] at g1; cases g1
      refine ⟨a, rfl, g2, g3, g4, fun j hj z => ?_⟩
      obtain ⟨b1, b, b2, b3⟩ := own' j hj
      rw [map_some_get.mp z] at b3
      cases b3
      have hij := R'.inj i j a (by rw [h1]; rfl) b1 r' b2
      subst hij
      obtain ⟨p, o', b', q1, q2, _⟩ := L.owns hj
      obtain ⟨hl, hg⟩ := backR_get e
      have hi : i < cs.length := by rw [← hl]; exact (List.getElem?_eq_some_iff.mp q1).1
      obtain ⟨c2, e1, e2⟩ := hg i cs[i] (List.getElem?_eq_getElem hi)
      rw [q1] at e1; cases e1
      rw [Nat.zero_add, h1] at e2
      unfold backC at e2
      cases q : cs[i] with
      | un => rw [q] at e2; cases e2
      | val d => rw [q] at e2; cases e2
      | own p0 o0 => rw [q] at e2; cases e2
    · rename_i o h1
      split at hw
      · rename_i hi
        cases hw
        obtain ⟨p0, o0, a, q, g1, _⟩ := R.owns hi
        obtain ⟨o2, a1, a2⟩ := R'.anc (i, a) (mem_anchs.mpr ⟨⟨p0, o0, q⟩, map_some_get.mp g1⟩)
        rw [r'] at a2; cases a2
        exact g1
      · cases hw
    · rename_i d h1
      cases hw
      obtain ⟨v', g1, g2⟩ := R'.val i d h1
      rw [r'] at g1; cases g1
      exact g2
    · cases hw
end

section
variable {g : G} {P : Program} {w : World} {base : Heap} {N ps : List Str} {k np nl : Nat} {sv : Sv}
/-- the wish of a def's body -/
abbrev ZE (E : XK) : WX := fun cls d _ H => E cls d H
theorem runD_use {C : RC} {F H : Hp} {cs : List Cell} {vs : List V} {Q : VK} {E : XK} (hA : C.anch = []) (R : Rel g C F H cs (vs.map some)) (hN : N.length = np + nl) (P : postE g C F (vs.map some) (ZE E) Q (runD np nl sv cs)) :
    tS g (ZE E) sv { nx := fun _ H' => Q .non H', rt := Q } (L2.start N vs) H := by
  unfold runD at P
  by_cases hl : cs.length = np
  · rw [if_pos hl] at P
    refine ⟨_, F, _, R.enter (by rw [hN, hl]), ?_⟩
    cases e : sv (startR cs nl) with
    | nx ρ =>
      rw [e] at P
      simp only [finR] at P
      cases e2 : backR cs 0 ρ with
      | none => rw [e2] at P; exact P.elim
      | some cs' =>
        rw [e2] at P
        exact fun F' H' σ' s R' => P F' H' s (R.leave hA s R' e2) .non .non
    | rt u ρ =>
      rw [e] at P
      simp only [finR] at P
      cases e1 : retW cs u ρ with
      | none => rw [e1] at P; exact P.elim
      | some u' =>
        cases e2 : backR cs 0 ρ with
        | none => rw [e1, e2] at P; exact P.elim
        | some cs' =>
          rw [e1, e2] at P
          exact fun F' H' σ' v s R' r => P F' H' s (R.leave hA s R' e2) v (RpW.leave hA R s R' e2 e1 r)
    | ex x ρ =>
      rw [e] at P
      simp only [finR] at P
      cases e2 : backR cs 0 ρ with
      | none => rw [e2] at P; exact P.elim
      | some cs' =>
        rw [e2] at P
        exact fun F' H' σ' cls d s R' rx => P F' H' cls d s (R.leave hA s R' e2) rx
    | bk ρ => rw [e] at P; exact P.elim
    | ct ρ => rw [e] at P; exact P.elim
    | bad => rw [e] at P; exact P.elim
  · rw [if_neg hl] at P
    exact P.elim
/-- a def keeps what its body's meaning says -/
theorem fn_ok {d : He.DefD} {fd : FuncData} (F : FunD g.K d.name d.qual d.params d.body d.scope [] [] (He.fAd g.K d.at_) fd) (S : FnScope N ps d.scope) (hp : ps.length = np) (hN : N.length = np + nl)
    (body : ∀ (cdv : Value) (A : Around) (outer : List Env) (s : Shared) (H : Hp) (E : XK), cdv = .ref (He.codeOf g.K d.at_) → Room k (A.deeper (envOfC d.qual d.scope s.heap.objs.size (He.fAd g.K d.at_) cdv)) →
      FSs g (cxOf (L2N.CX P w) P w g.K g.mg base N d.qual d.scope (He.fAd g.K d.at_) cdv A outer s H E) (ZE E) d.body sv) :
    FnOk P w g.K g.mg base (L2N.CX P w) (k + 1) (He.fAd g.K d.at_) fd ps (spF g np (runD np nl sv)) := by
  obtain ⟨oc, od, dV, kV, doc, pm, an, cdv, ct, osl, rfl, lk, hcd, _, _⟩ := F.ex
  obtain ⟨c, rfl⟩ := He.codeIn_ref hcd
  refine fn_of lk hcd S (fun vs H Q E h => by rw [hp]; exact h.1) fun A outer s H vs Q E hr h => ⟨_, body _ A outer s H E (by rw [He.codeOf_eq lk rfl]) hr, ?_⟩
  obtain ⟨hl, C, F1, cs, hA, R, P⟩ := h
  exact runD_use hA R hN P
theorem fn_mk {x : Str} {d : He.DefD} {fd : FuncData} (F : FunD g.K d.name d.qual d.params d.body d.scope [] [] (He.fAd g.K d.at_) fd) (hm : g.mg x = some (.ref (He.fAd g.K d.at_))) (S : FnScope N ps d.scope) (hb : Binds g.K fd ps []) (hp : ps.length = np) (hN : N.length = np + nl)
    (body : ∀ (cdv : Value) (A : Around) (outer : List Env) (s : Shared) (H : Hp) (E : XK), cdv = .ref (He.codeOf g.K d.at_) → Room k (A.deeper (envOfC d.qual d.scope s.heap.objs.size (He.fAd g.K d.at_) cdv)) →
      FSs g (cxOf (L2N.CX P w) P w g.K g.mg base N d.qual d.scope (He.fAd g.K d.at_) cdv A outer s H E) (ZE E) d.body sv) :
    Fn g P w base (k + 1) x np (runD np nl sv) := ⟨_, fd, ps, fn_ok F S hp hN body, hm, F.kp, hb⟩
end

/-! ### calls -/
def cellOf (ρ : Rho) : Wv → Option Cell
  | .val d => some (.val d)
  | .bor i => (match ρ[i]? with
    | some (.own p o) => some (.own p o)
    | some (.val d) => some (.val d)
    | _ => none)
  | .new _ => none
def cellsOf (ρ : Rho) : List Wv → Option (List Cell)
  | [] => some []
  | w :: ws => match cellOf ρ w, cellsOf ρ ws with
    | some c, some cs => some (c :: cs)
    | _, _ => none
/-- the slots whose own objects are handed on -/
def bors (ρ : Rho) : List Wv → List Nat
  | [] => []
  | .bor i :: ws => if isOwn ρ[i]? then i :: bors ρ ws else bors ρ ws
  | _ :: ws => bors ρ ws
def putB : List Wv → List Cell → Rho → Rho
  | .bor i :: ws, .own p o :: cs, ρ => putB ws cs (ρ.set i (.own p o))
  | _ :: ws, _ :: cs, ρ => putB ws cs ρ
  | _, _, ρ => ρ
def resW (ws : List Wv) : Wv → Option Wv
  | .bor j => (match ws[j]? with | some (.bor i) => some (.bor i) | _ => none)
  | w => some w
def callE (m : Ev) (fs : Av) : Ev := bindA fs fun ws ρ => match cellsOf ρ ws with
  | some cs => if (bors ρ ws).Nodup then (match m cs with
      | .ok w cs' => (match resW ws w with | some w' => .ok w' (putB ws cs' ρ) | none => .bad)
      | .ex e cs' => .ex e (putB ws cs' ρ)
      | .bad => .bad) else .bad
  | none => .bad
section
variable {g : G} {C : RC} {F F' H H' : Hp} {cs cs' : List Cell} {ρ ρ' : Rho} {σ σ' : St} {ws : List Wv} {vs : List V}
/-- the callee's outside: all but what is handed on, and the tables -/
def outB (H : Hp) (os : List Addr) : Hp := fun a => if a ∈ os then none else match H a with
  | some (.tbl _) => none
  | o => o
theorem outB_some {os : List Addr} {a : Addr} {o : HO} (h : outB H os a = some o) : H a = some o ∧ a ∉ os ∧ ∀ ps, o ≠ .tbl ps := by
  unfold outB at h
  split at h
  · cases h
  · rename_i hn
    split at h
    · cases h
    · rename_i q hq
      rw [h] at hq
      exact ⟨h ▸ rfl, hn, fun ps z => by subst z; exact hq ps rfl⟩
theorem outB_none {os : List Addr} {a : Addr} {o : HO} (h : H a = some o) (ht : ∀ ps, o ≠ .tbl ps) (hn : outB H os a = none) : a ∈ os := by
  unfold outB at hn
  split at hn
  · assumption
  · rw [h] at hn
    cases o <;> first | (cases hn; done) | exact absurd rfl (ht _)
theorem cellsOf_len : ∀ {ws : List Wv} {cs : List Cell}, cellsOf ρ ws = some cs → cs.length = ws.length ∧ ∀ (j : Nat) (c : Cell), cs[j]? = some c → ∃ w, ws[j]? = some w ∧ cellOf ρ w = some c
  | [], cs, e => by cases e; exact ⟨rfl, fun j c h => by simp at h⟩
  | w :: ws, cs, e => by
    simp only [cellsOf] at e
    split at e
    · rename_i c1 cs1 h1 h2
      cases e
      obtain ⟨l, f⟩ := cellsOf_len h2
      refine ⟨by simp [l], fun j c h => ?_⟩
      cases j with
      | zero => simp at h; subst h; exact ⟨w, rfl, h1⟩
      | succ j =>
        obtain ⟨w', e1, e2⟩ := f j c (by simpa using h)
        exact ⟨w', by simpa using e1, e2⟩
    · cases e
theorem cellOf_own {w : Wv} {p : Bool} {o : DO} (h : cellOf ρ w = some (.own p o)) : ∃ i, w = .bor i ∧ ρ[i]? = some (.own p o) := by
  unfold cellOf at h
  cases w with
  | val d => cases h
  | new o => cases h
  | bor i =>
    simp only at h
    split at h
    · rename_i q u e
      cases h
      exact ⟨i, rfl, e⟩
    · cases h
    · cases h
theorem bors_mem : ∀ {ws : List Wv} {i : Nat}, i ∈ bors ρ ws ↔ isOwn ρ[i]? = true ∧ .bor i ∈ ws
  | [], i => by simp [bors]
  | w :: ws, i => by
    cases w with
    | val d => simp [bors, bors_mem (ws := ws)]
    | new o => simp [bors, bors_mem (ws := ws)]
    | bor j =>
      simp only [bors]
      split
      · rename_i h
        rw [List.mem_cons, bors_mem (ws := ws), List.mem_cons]
        constructor
        · rintro (rfl | ⟨a, b⟩)
          · exact ⟨h, .inl rfl⟩
          · exact ⟨a, .inr b⟩
        · rintro ⟨a, b | b⟩
          · cases b; exact .inl rfl
          · exact .inr ⟨a, b⟩
      · rename_i h
        rw [bors_mem (ws := ws), List.mem_cons]
        constructor
        · rintro ⟨a, b⟩; exact ⟨a, .inr b⟩
        · rintro ⟨a, b | b⟩
          · cases b; exact absurd a h
          · exact ⟨a, b⟩
theorem bors_inj : ∀ {ws : List Wv}, (bors ρ ws).Nodup → ∀ (j k i : Nat), ws[j]? = some (.bor i) → ws[k]? = some (.bor i) → isOwn ρ[i]? = true → j = k
  | [], _, j, k, i, h, _, _ => by simp at h
  | w :: ws, hn, j, k, i, h1, h2, ho => by
    have tail : (bors ρ ws).Nodup := by
      cases w with
      | val d => exact hn
      | new o => exact hn
      | bor q =>
        simp only [bors] at hn
        split at hn
        · exact (List.nodup_cons.mp hn).2
        · exact hn
    have notin : w = .bor i → .bor i ∉ ws := fun hw hm => by
      subst hw
      simp only [bors, ho, if_true] at hn
      exact (List.nodup_cons.mp hn).1 (bors_mem.mpr ⟨ho, hm⟩)
    cases j with
    | zero =>
      cases k with
      | zero => rfl
      | succ k =>
        simp at h1 h2
        exact absurd (List.mem_of_getElem? h2) (notin h1)
    | succ j =>
      cases k with
      | zero =>
        simp at h1 h2
        exact absurd (List.mem_of_getElem? h1) (notin h2)
      | succ k =>
        simp at h1 h2
        rw [bors_inj tail j k i h1 h2 ho]
theorem paired_get {α β : Type} {p : α → β → Prop} : ∀ {as : List α} {bs : List β} {i : Nat} {a : α}, Paired p as bs → as[i]? = some a → ∃ b, bs[i]? = some b ∧ p a b
  | _, _, _, _, .nil, e => by simp at e
  | _, _, 0, _, .cons h _, e => by simp at e; subst e; exact ⟨_, rfl, h⟩
  | _, _, i + 1, _, .cons _ t, e => by
    obtain ⟨b, h1, h2⟩ := paired_get (i := i) t (by simpa using e)
    exact ⟨b, by simpa using h1, h2⟩
def addrs (ρ : Rho) (σ : St) (ws : List Wv) : List Addr := (bors ρ ws).filterMap fun (i : Nat) => match σ[i]? with
  | some (some (.ref a)) => some a
  | _ => none
theorem mem_addrs {a : Addr} : a ∈ addrs ρ σ ws ↔ ∃ i : Nat, isOwn ρ[i]? = true ∧ .bor i ∈ ws ∧ σ[i]? = some (some (.ref a)) := by
  unfold addrs
  rw [List.mem_filterMap]
  constructor
  · rintro ⟨i, hi, e⟩
    obtain ⟨h1, h2⟩ := bors_mem.mp hi
    split at e
    · rename_i b hb
      cases e
      exact ⟨i, h1, h2, hb⟩
    · cases e
  · rintro ⟨i, h1, h2, h3⟩
    exact ⟨i, bors_mem.mpr ⟨h1, h2⟩, by rw [h3]⟩
/-- the callee's state at the call -/
theorem Rel.call (R : Rel g C F H ρ σ) (rs : Paired (RpW g C F H ρ σ) ws vs) (hc : cellsOf ρ ws = some cs) (hn : (bors ρ ws).Nodup) : Rel g { B := outB H (addrs ρ σ ws), F0 := F, anch := [] } F H cs (vs.map some) := by
  obtain ⟨hl, hat⟩ := cellsOf_len hc
  have own' : ∀ (j : Nat) (p : Bool) (o : DO), cs[j]? = some (.own p o) → ∃ i a, ws[j]? = some (.bor i) ∧ ρ[i]? = some (.own p o) ∧ σ[i]? = some (some (.ref a)) ∧ vs[j]? = some (.ref a) := fun j p o h => by
    obtain ⟨w, h1, h2⟩ := hat j _ h
    obtain ⟨i, rfl, h3⟩ := cellOf_own h2
    obtain ⟨v, h4, h5⟩ := paired_get rs h1
    obtain ⟨a, h6, _⟩ := R.own i _ _ h3
    have h5' : σ[i]? = some (some v) := h5
    rw [h6] at h5'; cases h5'
    exact ⟨i, a, h1, h3, h6, h4⟩
  have isOwn' : ∀ (j : Nat) (a : Addr), isOwn cs[j]? = true → (vs.map some)[j]? = some (some (.ref a)) → ∃ i, ws[j]? = some (.bor i) ∧ isOwn ρ[i]? = true ∧ σ[i]? = some (some (.ref a)) := fun j a h hv => by
    cases q : cs[j]? with
    | none => rw [q] at h; cases h
    | some c =>
      cases c with
      | un => rw [q] at h; cases h
      | val d => rw [q] at h; cases h
      | own p o =>
        obtain ⟨i, b, h1, h2, h3, h4⟩ := own' j p o q
        rw [map_some_get.mp hv] at h4; cases h4
        exact ⟨i, h1, by rw [h2]; rfl, h3⟩
  refine ⟨by rw [hl, List.length_map]; exact paired_length rs, R.sub, fun a o e => (outB_some e).1, fun a o e => .inl e, R.tab, R.noTF, fun a ps e => (outB_some e).2.2 ps rfl, fun j d h => ?_, fun j p o h => ?_, fun j k a e1 e2 e3 e4 => ?_, fun p hp => nomatch hp⟩
  · obtain ⟨w, h1, h2⟩ := hat j _ h
    obtain ⟨v, h4, h5⟩ := paired_get rs h1
    refine ⟨v, map_some_get.mpr h4, ?_⟩
    cases w with
    | val d' => cases h2; exact h5
    | new o => cases h2
    | bor i =>
      simp only [cellOf] at h2
      split at h2
      · cases h2
      · rename_i d' e
        cases h2
        obtain ⟨v', g1, g2⟩ := R.val i _ e
        have h5' : σ[i]? = some (some v) := h5
        rw [g1] at h5'; cases h5'
        exact g2
      · cases h2
  · obtain ⟨i, a, h1, h2, h3, h4⟩ := own' j p o h
    obtain ⟨a', g1, g2, g3, g4⟩ := R.own i _ _ h2
    rw [h3] at g1; cases g1
    refine ⟨a, map_some_get.mpr h4, g2, g3, ?_⟩
    show outB H (addrs ρ σ ws) a = none
    unfold outB
    rw [if_pos (mem_addrs.mpr ⟨i, by rw [h2]; rfl, List.mem_of_getElem? h1, h3⟩)]
  · obtain ⟨i1, a1, b1, c1⟩ := isOwn' j a e1 e3
    obtain ⟨i2, a2, b2, c2⟩ := isOwn' k a e2 e4
    have := R.inj i1 i2 a b1 b2 c1 c2
    subst this
    exact bors_inj hn j k i1 a1 a2 b1
theorem putB_get : ∀ {ws : List Wv} {cs' : List Cell} {ρ : Rho} {i : Nat} {c : Cell}, (putB ws cs' ρ)[i]? = some c → ρ[i]? = some c ∨ ∃ (j : Nat) (p : Bool) (o : DO), ws[j]? = some (.bor i) ∧ cs'[j]? = some (.own p o) ∧ c = .own p o
  | [], cs', ρ, i, c, h => by
    have h' : ρ[i]? = some c := by cases cs' <;> exact h
    exact .inl h'
  | w :: ws, [], ρ, i, c, h => by
    have h' : ρ[i]? = some c := by cases w <;> exact h
    exact .inl h'
  | w :: ws, c0 :: cs', ρ, i, c, h => by
    have skip : (putB ws cs' ρ)[i]? = some c → ρ[i]? = some c ∨ ∃ (j : Nat) (p : Bool) (o : DO), (w :: ws)[j]? = some (.bor i) ∧ (c0 :: cs')[j]? = some (.own p o) ∧ c = .own p o := fun h => by
      rcases putB_get h with z | ⟨j, p, o, h1, h2, h3⟩
      · exact .inl z
      · exact .inr ⟨j + 1, p, o, by simpa using h1, by simpa using h2, h3⟩
    cases w with
    | val d => exact skip h
    | new d => exact skip h
    | bor q =>
      cases c0 with
      | un => exact skip h
      | val d => exact skip h
      | own p o =>
        simp only [putB] at h
        rcases putB_get h with z | ⟨j, p', o', h1, h2, h3⟩
        · by_cases hq : q = i
          · subst hq
            by_cases hl : q < ρ.length
            · rw [List.getElem?_set_self hl] at z
              cases z
              exact .inr ⟨0, p, o, rfl, rfl, rfl⟩
            · rw [List.getElem?_eq_none (by rw [List.length_set]; omega)] at z
              cases z
          · rw [List.getElem?_set_ne hq] at z
            exact .inl z
        · exact .inr ⟨j + 1, p', o', by simpa using h1, by simpa using h2, h3⟩
theorem putB_len : ∀ {ws : List Wv} {cs' : List Cell} {ρ : Rho}, (putB ws cs' ρ).length = ρ.length
  | [], cs', ρ => by cases cs' <;> rfl
  | w :: ws, [], ρ => by cases w <;> rfl
  | w :: ws, c0 :: cs', ρ => by
    cases w with
    | val d => exact putB_len (ws := ws) (cs' := cs')
    | new d => exact putB_len (ws := ws) (cs' := cs')
    | bor q =>
      cases c0 with
      | un => exact putB_len (ws := ws) (cs' := cs')
      | val d => exact putB_len (ws := ws) (cs' := cs')
      | own p o =>
        simp only [putB]
        rw [putB_len (ws := ws) (cs' := cs'), List.length_set]
/-- a slot that is handed on gets what the callee left -/
theorem putB_at : ∀ {ws : List Wv} {cs' : List Cell} {ρ : Rho} {i : Nat}, i < ρ.length → (∃ (j : Nat) (p : Bool) (o : DO), ws[j]? = some (.bor i) ∧ cs'[j]? = some (.own p o)) ∨ isOwn ρ[i]? = true → isOwn (putB ws cs' ρ)[i]? = true
  | [], cs', ρ, i, hi, h => by
    rcases h with ⟨j, p, o, h1, h2⟩ | h
    · simp at h1
    · have : putB [] cs' ρ = ρ := by cases cs' <;> rfl
      rw [this]; exact h
  | w :: ws, [], ρ, i, hi, h => by
    rcases h with ⟨j, p, o, h1, h2⟩ | h
    · simp at h2
    · have : putB (w :: ws) [] ρ = ρ := by cases w <;> rfl
      rw [this]; exact h
  | w :: ws, c0 :: cs', ρ, i, hi, h => by
    have skip : (∀ p o, ¬ (w = .bor i ∧ c0 = .own p o)) → isOwn (putB ws cs' ρ)[i]? = true := fun hne => by
      refine putB_at hi ?_
      rcases h with ⟨j, p, o, h1, h2⟩ | h
      · cases j with
        | zero => simp at h1 h2; exact absurd ⟨h1, h2⟩ (hne p o)
        | succ j => exact .inl ⟨j, p, o, by simpa using h1, by simpa using h2⟩
      · exact .inr h
    cases w with
    | val d => exact skip fun p o z => by cases z.1
    | new d => exact skip fun p o z => by cases z.1
    | bor q =>
      cases c0 with
      | un => exact skip fun p o z => by cases z.2
      | val d => exact skip fun p o z => by cases z.2
      | own p o =>
        simp only [putB]
        refine putB_at (by rw [List.length_set]; exact hi) ?_
        by_cases hq : q = i
        · subst hq
          right
          rw [List.getElem?_set_self hi]; rfl
        · rcases h with ⟨j, p', o', h1, h2⟩ | h
          · cases j with
            | zero => simp at h1; exact absurd h1 hq
            | succ j => exact .inl ⟨j, p', o', by simpa using h1, by simpa using h2⟩
          · right
            rw [List.getElem?_set_ne hq]; exact h

/-- the caller's state behind the call -/
theorem Rel.ret (R : Rel g C F H ρ σ) (rs : Paired (RpW g C F H ρ σ) ws vs) (s : Same F F') (R' : Rel g { B := outB H (addrs ρ σ ws), F0 := F, anch := [] } F' H' cs' (vs.map some)) (hown : ∀ (j i : Nat), ws[j]? = some (.bor i) → isOwn ρ[i]? = true → ∃ p o o', ρ[i]? = some (.own p o) ∧ cs'[j]? = some (.own p o')) (hback : ∀ (j : Nat) (p : Bool) (o : DO), cs'[j]? = some (.own p o) → ∃ i, ws[j]? = some (.bor i) ∧ isOwn ρ[i]? = true) :
    Rel g C F' H' (putB ws cs' ρ) σ ∧ (∀ a, outB H (addrs ρ σ ws) a = none → C.B a = none) ∧ ∀ i : Nat, isOwn (putB ws cs' ρ)[i]? = true → isOwn ρ[i]? = true := by
  have bnone : ∀ a, outB H (addrs ρ σ ws) a = none → C.B a = none := fun a h => by
    cases q : C.B a with
    | none => rfl
    | some u =>
      have hH := R.subB a u q
      have hm := outB_none hH (fun ps z => R.noTB a ps (by rw [q, z])) h
      obtain ⟨i, h1, _, h3⟩ := mem_addrs.mp hm
      obtain ⟨_, _, b, _, g1, _, _, g4⟩ := R.owns h1
      rw [h3] at g1; cases g1
      rw [g4] at q; cases q
  have same : ∀ i : Nat, isOwn (putB ws cs' ρ)[i]? = true → isOwn ρ[i]? = true := fun i h => by
    cases q : (putB ws cs' ρ)[i]? with
    | none => rw [q] at h; cases h
    | some c =>
      rcases putB_get q with z | ⟨j, p, o, h1, h2, h3⟩
      · rw [z]; rw [q] at h; exact h
      · obtain ⟨i', h4, h5⟩ := hback j p o h2
        rw [h1] at h4; cases h4
        exact h5
  refine ⟨⟨by rw [putB_len]; exact R.len, R'.sub, fun a u e => ?_, fun a u e => ?_, R'.tab, R'.noTF, R.noTB, fun i d e => ?_, fun i p o e => ?_, fun i j a e1 e2 e3 e4 => R.inj i j a (same i e1) (same j e2) e3 e4, fun q hq => ?_⟩, bnone, same⟩
  · refine R'.subB a u ?_
    show outB H (addrs ρ σ ws) a = some u
    cases q : outB H (addrs ρ σ ws) a with
    | none => rw [bnone a q] at e; cases e
    | some v =>
      have hH := R.subB a u e
      rw [(outB_some q).1] at hH
      exact hH
  · rcases R'.grow a u e with z | z
    · exact R.grow a u z
    · exact .inr (bnone a z)
  · rcases putB_get e with z | ⟨j, p, o, h1, h2, h3⟩
    · obtain ⟨v, g1, g2⟩ := R.val i d z
      exact ⟨v, g1, g2.mono s⟩
    · cases h3
  · rcases putB_get e with z | ⟨j, p', o', h1, h2, h3⟩
    · obtain ⟨a, g1, g2, g3, g4⟩ := R.own i p o z
      obtain ⟨u, hu, hut⟩ := g2.some
      by_cases hm : a ∈ addrs ρ σ ws
      · obtain ⟨i', k1, k2, k3⟩ := mem_addrs.mp hm
        have := R.inj i i' a (by rw [z]; rfl) k1 g1 k3
        subst this
        -- the slot is handed on: its object is the one that came back
        obtain ⟨j, hj⟩ := List.getElem?_of_mem k2
        obtain ⟨p2, o2, o3, q1, q2⟩ := hown j i hj k1
        rw [z] at q1; cases q1
        have last : ∃ (j : Nat) (o4 : DO), ws[j]? = some (.bor i) ∧ cs'[j]? = some (.own p o4) ∧ (putB ws cs' ρ)[i]? = some (.own p o4) := by
          clear hm k3 g1 g2 g3 g4 hu hut
          have key : ∀ {ws : List Wv} {cs' : List Cell} {ρ : Rho}, (∃ (j : Nat) (o3 : DO), ws[j]? = some (.bor i) ∧ cs'[j]? = some (.own p o3)) → i < ρ.length → (∀ (j : Nat) (p' : Bool) (o' : DO), ws[j]? = some (.bor i) → cs'[j]? = some (.own p' o') → p' = p) → ∃ (j : Nat) (o4 : DO), ws[j]? = some (.bor i) ∧ cs'[j]? = some (.own p o4) ∧ (putB ws cs' ρ)[i]? = some (.own p o4) := by
            intro ws
            induction ws with
            | nil => intro cs' ρ ⟨j, o3, h, _⟩; simp at h
            | cons w ws ih =>
              intro cs' ρ ⟨j, o3, h1, h2⟩ hi hp
              cases cs' with
              | nil => simp at h2
              | cons c0 cs' =>
                have lift : ∀ {ρ2 : Rho}, ρ2.length = ρ.length → (∃ (j : Nat) (o3 : DO), ws[j]? = some (.bor i) ∧ cs'[j]? = some (.own p o3)) → ∃ (j : Nat) (o4 : DO), (w :: ws)[j]? = some (.bor i) ∧ (c0 :: cs')[j]? = some (.own p o4) ∧ (putB ws cs' ρ2)[i]? = some (.own p o4) := fun {ρ2} hl hx => by
                  obtain ⟨j, o4, a, b, c⟩ := ih (ρ := ρ2) hx (by rw [hl]; exact hi) fun j p' o' a b => hp (j + 1) p' o' (by simpa using a) (by simpa using b)
                  exact ⟨j + 1, o4, by simpa using a, by simpa using b, c⟩
                by_cases hex : ∃ (j : Nat) (o3 : DO), ws[j]? = some (.bor i) ∧ cs'[j]? = some (.own p o3)
                · cases w with
                  | val d => exact lift rfl hex
                  | new d => exact lift rfl hex
                  | bor q =>
                    cases c0 with
                    | un => exact lift rfl hex
                    | val d => exact lift rfl hex
                    | own p0 o0 => exact lift (ρ2 := ρ.set q (.own p0 o0)) (by rw [List.length_set]) hex
                · cases j with
                  | succ j => exact absurd ⟨j, o3, by simpa using h1, by simpa using h2⟩ hex
                  | zero =>
                    simp at h1 h2
                    subst h1 h2
                    refine ⟨0, o3, rfl, rfl, ?_⟩
                    simp only [putB]
                    cases q : (putB ws cs' (ρ.set i (.own p o3)))[i]? with
                    | none =>
                      have := List.getElem?_eq_none_iff.mp q
                      rw [putB_len, List.length_set] at this
                      omega
                    | some c =>
                      rcases putB_get q with z | ⟨j, p', o', a, b, c'⟩
                      · rw [List.getElem?_set_self hi] at z
                        rw [← z]
                      · have := hp (j + 1) p' o' (by simpa using a) (by simpa using b)
                        subst this
                        exact absurd ⟨j, o', a, b⟩ hex
          refine key ⟨j, o3, hj, q2⟩ (List.getElem?_eq_some_iff.mp z).1 fun j' p' o' a b => ?_
          obtain ⟨p5, o5, o6, e5, e6⟩ := hown j' i a k1
          rw [z] at e5; cases e5
          rw [b] at e6; cases e6
          rfl
        obtain ⟨j2, o4, w1, w2, w3⟩ := last
        rw [e] at w3; cases w3
        obtain ⟨a', b1, b2, b3, b4⟩ := R'.own j2 _ _ w2
        obtain ⟨v', c1, c2⟩ := paired_get rs w1
        have c2' : σ[i]? = some (some v') := c2
        rw [map_some_get.mp b1] at c1; cases c1
        exact ⟨a', c2', b2, b3, bnone a' b4⟩
      · have hB : outB H (addrs ρ σ ws) a = some u := by
          unfold outB
          rw [if_neg hm, hu]
          cases u <;> first | rfl | exact absurd rfl (hut _)
        have hH' : H' a = some u := R'.subB a u hB
        refine ⟨a, g1, g2.mono s (hH'.trans hu.symm), ?_, g4⟩
        cases q : F' a with
        | none => rfl
        | some v =>
          rcases R'.grow a v q with y | y
          · have y' : F a = some v := y
            rw [g3] at y'; cases y'
          · have y' : outB H (addrs ρ σ ws) a = none := y
            rw [hB] at y'; cases y'
    · cases h3
      obtain ⟨a', b1, b2, b3, b4⟩ := R'.own j _ _ h2
      obtain ⟨v', c1, c2⟩ := paired_get rs h1
      have c2' : σ[i]? = some (some v') := c2
      rw [map_some_get.mp b1] at c1; cases c1
      exact ⟨a', c2', b2, b3, bnone a' b4⟩
  · obtain ⟨o, h1, h2⟩ := R.anc q hq
    have hi : q.1 < ρ.length := (List.getElem?_eq_some_iff.mp h1).1
    cases e : (putB ws cs' ρ)[q.1]? with
    | none =>
      have := List.getElem?_eq_none_iff.mp e
      rw [putB_len] at this
      omega
    | some c =>
      rcases putB_get e with z | ⟨j, p, o', k1, k2, k3⟩
      · rw [z] at h1; cases h1
        exact ⟨o, rfl, h2⟩
      · obtain ⟨p5, o5, o6, e5, e6⟩ := hown j q.1 k1 (by rw [h1]; rfl)
        rw [h1] at e5; cases e5
        rw [k2] at e6; cases e6
        subst k3
        exact ⟨o', rfl, h2⟩

theorem cellsOf_at : ∀ {ws : List Wv} {cs : List Cell} {j : Nat} {w : Wv}, cellsOf ρ ws = some cs → ws[j]? = some w → ∃ c, cs[j]? = some c ∧ cellOf ρ w = some c
  | [], cs, j, w, e, h => by simp at h
  | w0 :: ws, cs, j, w, e, h => by
    simp only [cellsOf] at e
    split at e
    · rename_i c1 cs1 h1 h2
      cases e
      cases j with
      | zero => simp at h; subst h; exact ⟨c1, rfl, h1⟩
      | succ j =>
        obtain ⟨c, a, b⟩ := cellsOf_at (j := j) h2 (by simpa using h)
        exact ⟨c, by simpa using a, b⟩
    · cases e
/-- what a callee leaves of its arguments has their shape -/
def Shape (cs cs' : List Cell) : Prop := cs'.length = cs.length ∧ ∀ (j : Nat), (∀ p o, cs[j]? = some (.own p o) → ∃ o', cs'[j]? = some (.own p o')) ∧ ∀ p o, cs'[j]? = some (.own p o) → ∃ o', cs[j]? = some (.own p o')
def shapeB : List Cell → List Cell → Bool
  | [], [] => true
  | .own p _ :: cs, .own q _ :: cs' => p == q && shapeB cs cs'
  | .own _ _ :: _, _ :: _ => false
  | _ :: _, .own _ _ :: _ => false
  | _ :: cs, _ :: cs' => shapeB cs cs'
  | _, _ => false
theorem shape_of : ∀ {cs cs' : List Cell}, shapeB cs cs' = true → Shape cs cs'
  | [], [], _ => ⟨rfl, fun j => ⟨fun p o h => by simp at h, fun p o h => by simp at h⟩⟩
  | [], _ :: _, h => by cases h
  | c :: cs, [], h => by cases c <;> cases h
  | c :: cs, c' :: cs', h => by
    have step : (∀ p o, c = .own p o → ∃ o', c' = .own p o') → (∀ p o, c' = .own p o → ∃ o', c = .own p o') → shapeB cs cs' = true → Shape (c :: cs) (c' :: cs') := fun a b h => by
      obtain ⟨l, f⟩ := shape_of h
      refine ⟨by simp [l], fun j => ?_⟩
      cases j with
      | zero =>
        refine ⟨fun p o e => ?_, fun p o e => ?_⟩
        · simp at e; obtain ⟨o', e'⟩ := a p o e; exact ⟨o', by simp [e']⟩
        · simp at e; obtain ⟨o', e'⟩ := b p o e; exact ⟨o', by simp [e']⟩
      | succ j =>
        refine ⟨fun p o e => ?_, fun p o e => ?_⟩
        · obtain ⟨o', e'⟩ := (f j).1 p o (by simpa using e); exact ⟨o', by simpa using e'⟩
        · obtain ⟨o', e'⟩ := (f j).2 p o (by simpa using e); exact ⟨o', by simpa using e'⟩
    cases c with
    | un =>
      cases c' with
      | own q u => cases h
      | _ => exact step (fun p o z => by cases z) (fun p o z => by cases z) h
    | val d =>
      cases c' with
      | own q u => cases h
      | _ => exact step (fun p o z => by cases z) (fun p o z => by cases z) h
    | own p o =>
      cases c' with
      | own q u =>
        simp only [shapeB, Bool.and_eq_true, beq_iff_eq] at h
        obtain ⟨rfl, h⟩ := h
        exact step (fun p' o' z => by cases z; exact ⟨_, rfl⟩) (fun p' o' z => by cases z; exact ⟨_, rfl⟩) h
      | _ => cases h
end
/-- a call's meaning: the callee is handed the slots' own objects -/
def callC (m : Ev) (ws : List Wv) (ρ : Rho) : Out Wv := match cellsOf ρ ws with
  | some cs => if (bors ρ ws).Nodup then (match m cs with
      | .ok w cs' => if shapeB cs cs' then (match resW ws w with | some w' => .ok w' (putB ws cs' ρ) | none => .bad) else .bad
      | .ex e cs' => if shapeB cs cs' then .ex e (putB ws cs' ρ) else .bad
      | .bad => .bad) else .bad
  | none => .bad
def callF (m : Ev) (fs : Av) : Ev := bindA fs (callC m)
section
variable {g : G} {C : RC} {F H : Hp} {ρ : Rho} {σ : St} {ws : List Wv} {vs : List V} {m : Ev} {np : Nat} {Z : WX} {Q : VK}
theorem callC_use (R : Rel g C F H ρ σ) (rs : Paired (RpW g C F H ρ σ) ws vs) (hl : ws.length = np) (P : postE g C F σ Z Q (callC m ws ρ)) : spF g np m vs H Q fun cls d H' => Z cls d σ H' := by
  unfold callC at P
  cases e1 : cellsOf ρ ws with
  | none => rw [e1] at P; exact P.elim
  | some cs =>
    rw [e1] at P
    simp only at P
    by_cases hn : (bors ρ ws).Nodup
    · rw [if_pos hn] at P
      refine ⟨by rw [← paired_length rs]; exact hl, _, F, cs, rfl, R.call rs e1 hn, ?_⟩
      have up : ∀ {F' H' : Hp} {cs' : List Cell}, Same F F' → shapeB cs cs' = true → Rel g { B := outB H (addrs ρ σ ws), F0 := F, anch := [] } F' H' cs' (vs.map some) → Rel g C F' H' (putB ws cs' ρ) σ ∧ (∀ a, outB H (addrs ρ σ ws) a = none → C.B a = none) ∧ ∀ i : Nat, isOwn (putB ws cs' ρ)[i]? = true → isOwn ρ[i]? = true := fun {F' H' cs'} s hs R' => by
        obtain ⟨_, f⟩ := shape_of hs
        refine R.ret rs s R' (fun j i h1 h2 => ?_) fun j p o h => ?_
        · obtain ⟨p, o, a, h3, _⟩ := R.owns h2
          obtain ⟨c, h4, h5⟩ := cellsOf_at e1 h1
          simp only [cellOf, h3] at h5
          cases h5
          obtain ⟨o', h6⟩ := (f j).1 p o h4
          exact ⟨p, o, o', h3, h6⟩
        · obtain ⟨o', h1⟩ := (f j).2 p o h
          obtain ⟨w, h2, h3⟩ := (cellsOf_len e1).2 j _ h1
          obtain ⟨i, rfl, h4⟩ := cellOf_own h3
          exact ⟨i, h2, by rw [h4]; rfl⟩
      cases e2 : m cs with
      | bad => rw [e2] at P; exact P.elim
      | ex x cs' =>
        rw [e2] at P
        simp only at P
        by_cases hs : shapeB cs cs' = true
        · rw [if_pos hs] at P
          exact fun F' H' cls d s R' rx => P F' H' cls d s (up s hs R').1 rx
        · rw [if_neg hs] at P
          exact P.elim
      | ok w cs' =>
        rw [e2] at P
        simp only at P
        by_cases hs : shapeB cs cs' = true
        · rw [if_pos hs] at P
          cases e3 : resW ws w with
          | none => rw [e3] at P; exact P.elim
          | some w' =>
            rw [e3] at P
            intro F' H' s R' v r
            obtain ⟨R2, bn, same⟩ := up s hs R'
            refine P F' H' s R2 v ?_
            cases w with
            | val d => cases e3; exact r
            | bor j =>
              simp only [resW] at e3
              split at e3
              · rename_i i hj
                cases e3
                obtain ⟨v', h1, h2⟩ := paired_get rs hj
                have r' : (vs.map some)[j]? = some (some v) := r
                rw [map_some_get.mp r'] at h1; cases h1
                exact h2
              · cases e3
            | new o =>
              cases e3
              obtain ⟨a, rfl, r1, r2, r3, r4⟩ := r
              refine ⟨a, rfl, r1, r2, bn a r3, fun i hi z => ?_⟩
              have hi' := same i hi
              obtain ⟨p, u, b, g1, g2, g3, g4, g5⟩ := R.owns hi'
              rw [z] at g2; cases g2
              by_cases hm : a ∈ addrs ρ σ ws
              · obtain ⟨i2, k1, k2, k3⟩ := mem_addrs.mp hm
                obtain ⟨j, hj⟩ := List.getElem?_of_mem k2
                obtain ⟨v', c1, c2⟩ := paired_get rs hj
                have c2' : σ[i2]? = some (some v') := c2
                rw [k3] at c2'; cases c2'
                obtain ⟨p2, o2, a2, q1, _⟩ := R.owns k1
                obtain ⟨c, q2, q3⟩ := cellsOf_at e1 hj
                simp only [cellOf, q1] at q3
                cases q3
                obtain ⟨o3, q4⟩ := ((shape_of hs).2 j).1 p2 o2 q2
                exact r4 j (by rw [q4]; rfl) (map_some_get.mpr c1)
              · obtain ⟨u', hu, hut⟩ := g3.some
                have : outB H (addrs ρ σ ws) a = some u' := by
                  unfold outB
                  rw [if_neg hm, hu]
                  cases u' <;> first | rfl | exact absurd rfl (hut _)
                have r3' : outB H (addrs ρ σ ws) a = none := r3
                rw [this] at r3'; cases r3'
        · rw [if_neg hs] at P
          exact P.elim
    · rw [if_neg hn] at P
      exact P.elim
variable {X : Cx} {x : Str} {k : Nat} {e : Expr} {es : List Expr} {fs : Av} {p pos : Pos}
theorem fa_len_use {n : Nat} {Q : List V → Hp → Prop} (h : tA g Z fs σ H fun vs H1 => vs.length = n → Q vs H1) (hn : ∀ ρ ws ρ', fs ρ = .ok ws ρ' → ws.length = n) : tA g Z fs σ H Q := by
  obtain ⟨C, F, ρ, R, P⟩ := h
  refine ⟨C, F, ρ, R, ?_⟩
  cases e : fs ρ with
  | bad => rw [e] at P; exact P
  | ex x ρ' => rw [e] at P; exact P
  | ok ws ρ1 =>
    rw [e] at P
    exact fun F' H' s R' vs rs n' => P F' H' s R' vs rs n' (by rw [← paired_length rs]; exact hn _ _ _ e)
theorem callF_use {H : Hp} (hn : ∀ ρ ws ρ', fs ρ = .ok ws ρ' → ws.length = np) (h : tE g Z (callF m fs) σ H Q) : tA g Z fs σ H fun vs H1 => spF g np m vs H1 Q fun cls d H' => Z cls d σ H' := by
  obtain ⟨C, F, ρ, R, P⟩ := h
  refine ⟨C, F, ρ, R, ?_⟩
  unfold callF bindA at P
  cases e1 : fs ρ with
  | bad => rw [e1] at P; exact P
  | ex x ρ' => rw [e1] at P; exact P
  | ok ws ρ1 =>
    rw [e1] at P
    exact fun F' H' s R' vs rs n => callC_use R' rs (hn _ _ _ e1) (P.mono s)
theorem consA_len {fa : Ev} {n : Nat} (hn : ∀ ρ ws ρ', fs ρ = .ok ws ρ' → ws.length = n) : ∀ ρ ws ρ', consA fa fs ρ = .ok ws ρ' → ws.length = n + 1 := fun ρ ws ρ' e => by
  unfold consA bindG at e
  cases e1 : fa ρ with
  | bad => rw [e1] at e; cases e
  | ex x ρ1 => rw [e1] at e; cases e
  | ok w ρ1 =>
    rw [e1] at e
    simp only at e
    cases e3 : fzW w with
    | none => rw [e3] at e; cases e
    | some w' =>
      rw [e3] at e
      simp only at e
      cases e2 : fs ρ1 with
      | bad => rw [e2] at e; cases e
      | ex x ρ2 => rw [e2] at e; cases e
      | ok ws2 ρ2 =>
        rw [e2] at e
        cases e
        simp [hn _ _ _ e2]
/-- how many arguments there are -/
class ALen (fs : Av) (n : outParam Nat) : Prop where
  len : ∀ ρ ws ρ', fs ρ = .ok ws ρ' → ws.length = n
instance : ALen nilA 0 := ⟨nilA_len⟩
instance {fa : Ev} {fs : Av} {n : Nat} [h : ALen fs n] : ALen (consA fa fs) (n + 1) := ⟨consA_len h.len⟩
/-- f(e, ..) -/
theorem fe_call {P : Program} {w : World} {base : Heap} {n : Nat} (h : Fn g P w base k x np m) (hr : Room k X.A) (tk : L2N.Takes X Z) (ha : FA g X Z (e :: es) fs) [hl : ALen fs n] (hnp : n = np := by rfl) (hg : Gl X x := by rfl) (hP : X.prog = P := by rfl) (hw : X.w = w := by rfl) (hb : X.base = base := by rfl) (hK : X.K = g.K := by rfl) (hM : X.mg = g.mg := by rfl)
    (hdb : (x == ("__debug__" : Str)) = false := by decide) (he : starEach (e :: es) X.env = (false, eval e X.env) :: starEach es X.env := by rfl) (hpl : (backTo pos (starEach es X.env)).any (·.1) = false := by rfl) :
    FE g X Z (.Call (.Name x p) (e :: es) [] pos) (callF m fs) := by
  obtain ⟨f, fd, ps, h1, h2, h3, h4⟩ := h.ex
  subst hP hw hb
  rw [← hK, ← hM] at h1
  rw [← hM] at h2
  rw [← hK] at h3 h4
  refine pe_imp (pe_callS h1 hr hg h2 h3 h4 (fun σ => L2N.passAt tk σ) ha hdb he hpl) fun σ H Q q => ?_
  subst hnp
  exact callF_use hl.len q
/-- f() -/
theorem fe_call0 {P : Program} {w : World} {base : Heap} (h : Fn g P w base k x 0 m) (hr : Room k X.A) (tk : L2N.Takes X Z) (hg : Gl X x := by rfl) (hP : X.prog = P := by rfl) (hw : X.w = w := by rfl) (hb : X.base = base := by rfl) (hK : X.K = g.K := by rfl) (hM : X.mg = g.mg := by rfl)
    (hdb : (x == ("__debug__" : Str)) = false := by decide) : FE g X Z (.Call (.Name x p) [] [] pos) (callF m nilA) := by
  obtain ⟨f, fd, ps, h1, h2, h3, h4⟩ := h.ex
  subst hP hw hb
  rw [← hK, ← hM] at h1
  rw [← hM] at h2
  rw [← hK] at h3 h4
  refine ⟨fun pins s σ H Q I q => ?_⟩
  obtain ⟨C, F, ρ, R, P⟩ := callF_use nilA_len q
  have q2 := P F H (Same.refl F) R [] .nil rfl
  refine wpAny_Call_Name_kw (ld_glob I hg h2 ?_ hdb)
  exact PySem.W.callWith_K0 I.kIn h3 (run_fnS (us := []) h1 hr h4 (L2N.passAt tk σ) I .nil q2)
end
end FX
namespace FX
open PySem PySem.Spec PyProof.Rows L2

/-! ### built-ins by values -/
def getsD (ρ : Rho) : List Wv → Option (List D)
  | [] => some []
  | w :: ws => match w.get ρ, getsD ρ ws with
    | some d, some ds => some (d :: ds)
    | _, _ => none
def liftL (sem : List D → Option Wv) (ws : List Wv) : Ev := fun ρ => match getsD ρ ws with
  | some ds => (match sem ds with | some w => .ok w ρ | none => .bad)
  | none => .bad
def bltE (sem : List D → Option Wv) (fs : Av) : Ev := bindA fs (liftL sem)
def SemC (g : G) (r : List V → Hp → VK → Prop) (sem : List D → Option Wv) : Prop := ∀ (C : RC) (F H : Hp) (ρ : Rho) (σ : St) (ds : List D) (vs : List V) (w : Wv) (Q : VK), Rel g C F H ρ σ → Paired (RpT g F H) ds vs → sem ds = some w →
  (∀ F' H', Same F F' → Rel g C F' H' ρ σ → ∀ v, RpW g C F' H' ρ σ w v → Q v H') → r vs H Q
section
variable {g : G} {C : RC} {F H : Hp} {ρ : Rho} {σ : St} {Z : WX} {X : Cx} {r : List V → Hp → VK → Prop} {sem : List D → Option Wv}
theorem getsD_rp (R : Rel g C F H ρ σ) : ∀ {ws : List Wv} {vs : List V} {ds : List D}, Paired (RpW g C F H ρ σ) ws vs → getsD ρ ws = some ds → Paired (RpT g F H) ds vs
  | [], _, ds, .nil, e => by cases e; exact .nil
  | w :: ws, _, ds, .cons a b, e => by
    simp only [getsD] at e
    split at e
    · rename_i d ds' h1 h2
      cases e
      exact .cons (get_rp R a h1) (getsD_rp R b h2)
    · cases e
theorem liftL_use (hs : SemC g r sem) {ws : List Wv} {vs : List V} {Q : VK} (R : Rel g C F H ρ σ) (rs : Paired (RpW g C F H ρ σ) ws vs) (P : postE g C F σ Z Q (liftL sem ws ρ)) : r vs H Q := by
  unfold liftL at P
  cases e1 : getsD ρ ws with
  | none => simp only [e1] at P; exact P.elim
  | some ds =>
    cases e3 : sem ds with
    | none => simp only [e1, e3] at P; exact P.elim
    | some w =>
      simp only [e1, e3] at P
      exact hs C F H ρ σ ds vs w Q R (getsD_rp R rs e1) e3 P
theorem bltE_use (hs : SemC g r sem) {fs : Av} {H : Hp} {Q : VK} (h : tE g Z (bltE sem fs) σ H Q) : tCB r (tA g Z fs) σ H Q := by
  obtain ⟨C, F, ρ, R, P⟩ := h
  exact postA_bind R P fun F1 H1 ρ1 ws vs s1 R1 rs n P1 => liftL_use hs R1 rs P1
variable {x id : Str} {e : Expr} {es : List Expr} {fs : Av} {p pos : Pos}
theorem fe_blt {id : String} (hc : CallR X (.builtin id) r) (hs : SemC g r sem) (hm : X.mg x = none) (ha : FA g X Z (e :: es) fs) (hv : bootBuiltins x = some (.builtin id) := by first | rfl | decide +kernel) (hg : Gl X x := by rfl) (hn : x ≠ "__name__" := by decide) (hdb : (x == ("__debug__" : Str)) = false := by decide)
    (he : starEach (e :: es) X.env = (false, eval e X.env) :: starEach es X.env := by rfl) (hpl : (backTo pos (starEach es X.env)).any (·.1) = false := by rfl) : FE g X Z (.Call (.Name x p) (e :: es) [] pos) (bltE sem fs) := pe_imp (pe_callB hc hg hm hv ha hn hdb he hpl) fun σ H Q h => bltE_use hs h
theorem fe_ty {T : String} (hc : CallR X (.type T) r) (hs : SemC g r sem) (hm : X.mg x = none) (ha : FA g X Z (e :: es) fs) (hv : bootBuiltins x = some (.type T) := by first | rfl | decide +kernel) (hg : Gl X x := by rfl) (hn : x ≠ "__name__" := by decide) (hdb : (x == ("__debug__" : Str)) = false := by decide)
    (he : starEach (e :: es) X.env = (false, eval e X.env) :: starEach es X.env := by rfl) (hpl : (backTo pos (starEach es X.env)).any (·.1) = false := by rfl) : FE g X Z (.Call (.Name x p) (e :: es) [] pos) (bltE sem fs) := pe_imp (pe_callTy hc hg hm hv ha hn hdb he hpl) fun σ H Q h => bltE_use hs h

/-! ### len -/
def lenD : List D → Option Wv
  | [.tup l] => vI l.length
  | [.lst l] => vI l.length
  | [.scr l] => vI l.length
  | [.str x] => if x.length ≤ sizeLine then vI x.length else none
  | _ => none
theorem sc_len : SemC g (fun xs H Q => ∃ x n, xs = [x] ∧ LenV g.K x H n ∧ Q (.int n) H) lenD := by
  intro C F H ρ σ ds vs w Q R rs e P
  unfold lenD at e
  split at e
  · cases e
    cases rs with
    | cons r1 rr =>
      cases rr
      cases r1 with
      | tup hs q => exact ⟨_, _, rfl, .inr ⟨_, sqT_same R.sub hs, q.length⟩, P F H (Same.refl F) R _ (.int _)⟩
  · cases e
    cases rs with
    | cons r1 rr =>
      cases rr
      obtain ⟨a, vs, rfl, hs, q⟩ := r1
      exact ⟨_, _, rfl, .inl ⟨_, .inl (.inl hs), q.length⟩, P F H (Same.refl F) R _ (.int _)⟩
  · cases e
    cases rs with
    | cons r1 rr =>
      cases rr
      cases r1 with
      | scr hs => exact ⟨_, _, rfl, .inl ⟨_, R.sub.seq hs, by rw [List.length_map]⟩, P F H (Same.refl F) R _ (.int _)⟩
  · split at e
    · rename_i hz
      cases e
      cases rs with
      | cons r1 rr =>
        cases rr
        cases r1
        exact ⟨_, _, rfl, ⟨hz, rfl⟩, P F H (Same.refl F) R _ (.int _)⟩
    · cases e
  · cases e

/-! ### numbers -/
def absD : List D → Option Wv
  | [.int i] => vI (if i < 0 then -i else i)
  | _ => none
theorem sc_abs : SemC g (fun xs H Q => ∃ i, xs = [.int i] ∧ Q (.int (if i < 0 then -i else i)) H) absD := by
  intro C F H ρ σ ds vs w Q R rs e P
  unfold absD at e
  split at e
  · cases e
    cases rs with
    | cons r1 rr =>
      cases rr
      cases r1
      exact ⟨_, rfl, P F H (Same.refl F) R _ (.int _)⟩
  · cases e
def maxD2 : List D → Option Wv
  | [.int i, .int j] => vI (if j > i then j else i)
  | _ => none
def minD2 : List D → Option Wv
  | [.int i, .int j] => vI (if j < i then j else i)
  | _ => none
theorem sc_max2 : SemC g (fun xs H Q => ∃ i j, xs = [.int i, .int j] ∧ Q (.int (if j > i then j else i)) H) maxD2 := by
  intro C F H ρ σ ds vs w Q R rs e P
  unfold maxD2 at e
  split at e
  · cases e
    cases rs with
    | cons r1 rr =>
      cases rr with
      | cons r2 rr =>
        cases rr
        cases r1; cases r2
        exact ⟨_, _, rfl, P F H (Same.refl F) R _ (.int _)⟩
  · cases e
theorem sc_min2 : SemC g (fun xs H Q => ∃ i j, xs = [.int i, .int j] ∧ Q (.int (if j < i then j else i)) H) minD2 := by
  intro C F H ρ σ ds vs w Q R rs e P
  unfold minD2 at e
  split at e
  · cases e
    cases rs with
    | cons r1 rr =>
      cases rr with
      | cons r2 rr =>
        cases rr
        cases r1; cases r2
        exact ⟨_, _, rfl, P F H (Same.refl F) R _ (.int _)⟩
  · cases e
def rInt : List V → Hp → VK → Prop := fun xs H Q => ((∃ i, xs = [.int i] ∧ Q (.int i) H) ∨ ∃ k, xs = [.bl k] ∧ Q (.int (if k then 1 else 0)) H) ∨ ∃ a n, xs = [.str a] ∧ PySem.intText? a = some n ∧ a.length ≤ 640 ∧ Q (.int n) H
theorem cr_int : CallR X (.type "int") rInt := call_int1.or call_int_str
def intD : List D → Option Wv
  | [.int i] => vI i
  | [.bl b] => vI (if b then 1 else 0)
  | [.str a] => if a.length ≤ 640 then (PySem.intText? a).map fun n => .val (.int n) else none
  | _ => none
theorem sc_int : SemC g rInt intD := by
  intro C F H ρ σ ds vs w Q R rs e P
  unfold intD at e
  split at e
  · cases e
    cases rs with
    | cons r1 rr =>
      cases rr
      cases r1
      exact .inl (.inl ⟨_, rfl, P F H (Same.refl F) R _ (.int _)⟩)
  · cases e
    cases rs with
    | cons r1 rr =>
      cases rr
      cases r1
      exact .inl (.inr ⟨_, rfl, P F H (Same.refl F) R _ (.int _)⟩)
  · split at e
    · rename_i hz
      obtain ⟨n, h1, rfl⟩ := Option.map_eq_some_iff.mp e
      cases rs with
      | cons r1 rr =>
        cases rr
        cases r1
        exact .inr ⟨_, n, rfl, h1, hz, P F H (Same.refl F) R _ (.int _)⟩
    · cases e
  · cases e
def boolD : List D → Option Wv
  | [.int i] => vB (i != 0)
  | [.bl b] => vB b
  | _ => none
theorem sc_bool : SemC g (fun xs H Q => (∃ i, xs = [.int i] ∧ Q (.bl (i != 0)) H) ∨ ∃ k, xs = [.bl k] ∧ Q (.bl k) H) boolD := by
  intro C F H ρ σ ds vs w Q R rs e P
  unfold boolD at e
  split at e
  · cases e
    cases rs with
    | cons r1 rr =>
      cases rr
      cases r1
      exact .inl ⟨_, rfl, P F H (Same.refl F) R _ (.bl _)⟩
  · cases e
    cases rs with
    | cons r1 rr =>
      cases rr
      cases r1
      exact .inr ⟨_, rfl, P F H (Same.refl F) R _ (.bl _)⟩
  · cases e
def rStr : List V → Hp → VK → Prop := fun xs H Q => (∃ i, xs = [.int i] ∧ i.natAbs.log2 < 1920 ∧ Q (.str (toString i)) H) ∨ ∃ a, xs = [.str a] ∧ Q (.str a) H
theorem cr_str : CallR X (.type "str") rStr := call_str_int.or SkE.call_str_str
def strD : List D → Option Wv
  | [.int i] => if i.natAbs.log2 < 1920 then some (.val (.str (toString i))) else none
  | [.str a] => some (.val (.str a))
  | _ => none
theorem sc_str : SemC g rStr strD := by
  intro C F H ρ σ ds vs w Q R rs e P
  unfold strD at e
  split at e
  · split at e
    · rename_i hz
      cases e
      cases rs with
      | cons r1 rr =>
        cases rr
        cases r1
        exact .inl ⟨_, rfl, hz, P F H (Same.refl F) R _ (.str _)⟩
    · cases e
  · cases e
    cases rs with
    | cons r1 rr =>
      cases rr
      cases r1
      exact .inr ⟨_, rfl, P F H (Same.refl F) R _ (.str _)⟩
  · cases e

/-! ### lists of ints, of truths -/
def asInts : List D → Option (List Int)
  | [] => some []
  | .int i :: l => (asInts l).map (i :: ·)
  | _ :: _ => none
def asBls : List D → Option (List Bool)
  | [] => some []
  | .bl i :: l => (asBls l).map (i :: ·)
  | _ :: _ => none
def asStrs : List D → Option (List Str)
  | [] => some []
  | .str i :: l => (asStrs l).map (i :: ·)
  | _ :: _ => none
theorem asInts_rp : ∀ {l : List D} {vs : List V} {ns : List Int}, RpL g F l vs → asInts l = some ns → vs = ns.map V.int
  | [], _, ns, .nil, e => by cases e; rfl
  | d :: l, _, ns, .cons h r, e => by
    cases d <;> first | (cases e; done) | skip
    obtain ⟨ms, h1, rfl⟩ := Option.map_eq_some_iff.mp e
    cases h
    rw [asInts_rp r h1]
    rfl
theorem asBls_rp : ∀ {l : List D} {vs : List V} {ns : List Bool}, RpL g F l vs → asBls l = some ns → vs = ns.map V.bl
  | [], _, ns, .nil, e => by cases e; rfl
  | d :: l, _, ns, .cons h r, e => by
    cases d <;> first | (cases e; done) | skip
    obtain ⟨ms, h1, rfl⟩ := Option.map_eq_some_iff.mp e
    cases h
    rw [asBls_rp r h1]
    rfl
theorem asStrs_rp : ∀ {l : List D} {vs : List V} {ns : List Str}, RpL g F l vs → asStrs l = some ns → vs = ns.map V.str
  | [], _, ns, .nil, e => by cases e; rfl
  | d :: l, _, ns, .cons h r, e => by
    cases d <;> first | (cases e; done) | skip
    obtain ⟨ms, h1, rfl⟩ := Option.map_eq_some_iff.mp e
    cases h
    rw [asStrs_rp r h1]
    rfl
theorem ints_rp : ∀ (ns : List Int), RpL g F (ns.map D.int) (ns.map V.int)
  | [] => .nil
  | n :: ns => .cons (.int n) (ints_rp ns)
theorem strs_rp : ∀ (ns : List Str), RpL g F (ns.map D.str) (ns.map V.str)
  | [] => .nil
  | n :: ns => .cons (.str n) (strs_rp ns)
/-- of one list of ints -/
def onInts (k : List Int → Option Wv) : List D → Option Wv
  | [.lst l] => (asInts l).bind k
  | _ => none
theorem onInts_use {k : List Int → Option Wv} {r : List V → Hp → VK → Prop} (h : ∀ (C : RC) (F H : Hp) (ρ : Rho) (σ : St) (a : Addr) (ns : List Int) (w : Wv) (Q : VK), Rel g C F H ρ σ → SqL g.K H a (ns.map V.int) → k ns = some w →
    (∀ F' H', Same F F' → Rel g C F' H' ρ σ → ∀ v, RpW g C F' H' ρ σ w v → Q v H') → r [.ref a] H Q) : SemC g r (onInts k) := by
  intro C F H ρ σ ds vs w Q R rs e P
  unfold onInts at e
  split at e
  · obtain ⟨ns, h1, h2⟩ := Option.bind_eq_some_iff.mp e
    cases rs with
    | cons r1 rr =>
      cases rr
      obtain ⟨a, vs, rfl, hs, q⟩ := r1
      have ev := asInts_rp q h1
      subst ev
      exact h C F H ρ σ a ns w Q R (.inl (.inl hs)) h2 P
  · cases e
def sumD := onInts fun ns => vI ns.sum
def maxD := onInts fun ns => ns.max?.map fun m => .val (.int m)
def minD := onInts fun ns => ns.min?.map fun m => .val (.int m)
def sortI (ns : List Int) : List Int := ns.mergeSort fun a b => decide (a ≤ b)
def sortedD := onInts fun ns => some (.new (.lst ((sortI ns).map .int)))
theorem sc_sum : SemC g (rSum g.K) sumD := onInts_use fun C F H ρ σ a ns w Q R hs e P => by
  cases e
  exact ⟨a, ns, rfl, hs, P F H (Same.refl F) R _ (.int _)⟩
theorem sc_max : SemC g (rMax g.K) maxD := onInts_use fun C F H ρ σ a ns w Q R hs e P => by
  obtain ⟨m, h1, rfl⟩ := Option.map_eq_some_iff.mp e
  obtain ⟨h2, h3⟩ := List.max?_eq_some_iff.mp h1
  refine ⟨a, ns, rfl, hs, List.length_pos_of_mem h2, fun m' h4 h5 => ?_⟩
  have : m' = m := Int.le_antisymm (h3 m' h4) (h5 m h2)
  subst this
  exact P F H (Same.refl F) R _ (.int _)
theorem sc_min : SemC g (rMin g.K) minD := onInts_use fun C F H ρ σ a ns w Q R hs e P => by
  obtain ⟨m, h1, rfl⟩ := Option.map_eq_some_iff.mp e
  obtain ⟨h2, h3⟩ := List.min?_eq_some_iff.mp h1
  refine ⟨a, ns, rfl, hs, List.length_pos_of_mem h2, fun m' h4 h5 => ?_⟩
  have : m' = m := Int.le_antisymm (h5 m h2) (h3 m' h4)
  subst this
  exact P F H (Same.refl F) R _ (.int _)
theorem sortI_of {ns ms : List Int} (h : ms.Perm ns) (h2 : ms.Pairwise (· ≤ ·)) : ms = sortI ns := by
  have p : (sortI ns).Pairwise (· ≤ ·) := by
    have := List.pairwise_mergeSort (le := fun a b : Int => decide (a ≤ b)) (fun a b c h1 h2 => by simp at h1 h2 ⊢; omega) (fun a b => by simp; omega) ns
    exact this.imp fun h => by simpa using h
  exact List.Perm.eq_of_pairwise (fun a b _ _ h1 h2 => Int.le_antisymm h1 h2) h2 p (h.trans (List.mergeSort_perm ns _).symm)
theorem sc_sorted : SemC g (rSortedI g.K) sortedD := onInts_use fun C F H ρ σ a ns w Q R hs e P => by
  cases e
  refine ⟨a, ns, rfl, hs, fun ms p h1 h2 hp => ?_⟩
  have := sortI_of h1 h2
  subst this
  exact P F _ (Same.refl F) (R.newLst hp (ints_rp _)).1 (.ref p) (R.newLst hp (ints_rp _)).2
def onBls (k : List Bool → Option Wv) : List D → Option Wv
  | [.lst l] => (asBls l).bind k
  | _ => none
theorem onBls_use {k : List Bool → Option Wv} {r : List V → Hp → VK → Prop} (h : ∀ (C : RC) (F H : Hp) (ρ : Rho) (σ : St) (a : Addr) (ns : List Bool) (w : Wv) (Q : VK), Rel g C F H ρ σ → SqL g.K H a (ns.map V.bl) → k ns = some w →
    (∀ F' H', Same F F' → Rel g C F' H' ρ σ → ∀ v, RpW g C F' H' ρ σ w v → Q v H') → r [.ref a] H Q) : SemC g r (onBls k) := by
  intro C F H ρ σ ds vs w Q R rs e P
  unfold onBls at e
  split at e
  · obtain ⟨ns, h1, h2⟩ := Option.bind_eq_some_iff.mp e
    cases rs with
    | cons r1 rr =>
      cases rr
      obtain ⟨a, vs, rfl, hs, q⟩ := r1
      have ev := asBls_rp q h1
      subst ev
      exact h C F H ρ σ a ns w Q R (.inl (.inl hs)) h2 P
  · cases e
def allD := onBls fun ns => vB (ns.all _root_.id)
def anyD := onBls fun ns => vB (ns.any _root_.id)
theorem sc_all : SemC g (rAll g.K) allD := onBls_use fun C F H ρ σ a ns w Q R hs e P => by
  cases e
  exact ⟨a, ns, rfl, hs, P F H (Same.refl F) R _ (.bl _)⟩
theorem sc_any : SemC g (rAny g.K) anyD := onBls_use fun C F H ρ σ a ns w Q R hs e P => by
  cases e
  exact ⟨a, ns, rfl, hs, P F H (Same.refl F) R _ (.bl _)⟩
/-- list(x), tuple(x) -/
def listD : List D → Option Wv
  | [.tup l] => some (.new (.lst l))
  | [.lst l] => some (.new (.lst l))
  | _ => none
def tupleD : List D → Option Wv
  | [.tup l] => some (.val (.tup l))
  | [.lst l] => some (.val (.tup l))
  | _ => none
theorem sc_list : SemC g (fun xs H Q => ∃ p ys, xs = [.ref p] ∧ (SqL g.K H p ys ∨ SqT g.K H p ys) ∧ ∀ l, H l = none → Q (.ref l) (upd H l (.lst ys))) listD := by
  intro C F H ρ σ ds vs w Q R rs e P
  unfold listD at e
  split at e
  · cases e
    cases rs with
    | cons r1 rr =>
      cases rr
      cases r1 with
      | tup hs q => exact ⟨_, _, rfl, .inr (sqT_same R.sub hs), fun p hp => P F _ (Same.refl F) (R.newLst hp q).1 (.ref p) (R.newLst hp q).2⟩
  · cases e
    cases rs with
    | cons r1 rr =>
      cases rr
      obtain ⟨a, vs, rfl, hs, q⟩ := r1
      exact ⟨_, _, rfl, .inl (.inl (.inl hs)), fun p hp => P F _ (Same.refl F) (R.newLst hp q).1 (.ref p) (R.newLst hp q).2⟩
  · cases e
theorem sc_tuple : SemC g (fun xs H Q => ∃ p ys, xs = [.ref p] ∧ ((SqL g.K H p ys ∧ ∀ l, H l = none → Q (.ref l) (upd H l (.tup ys))) ∨ (SqT g.K H p ys ∧ Q (.ref p) H))) tupleD := by
  intro C F H ρ σ ds vs w Q R rs e P
  unfold tupleD at e
  split at e
  · cases e
    cases rs with
    | cons r1 rr =>
      cases rr
      cases r1 with
      | tup hs q => exact ⟨_, _, rfl, .inr ⟨sqT_same R.sub hs, P F H (Same.refl F) R _ (.tup hs q)⟩⟩
  · cases e
    cases rs with
    | cons r1 rr =>
      cases rr
      obtain ⟨a, vs, rfl, hs, q⟩ := r1
      refine ⟨_, _, rfl, .inl ⟨.inl (.inl hs), fun p hp => ?_⟩⟩
      obtain ⟨F2, s2, R2, h⟩ := R.newTup hp q
      exact P F2 _ s2 R2 (.ref p) h
  · cases e

/-! ### isinstance(x, T), T a built-in type -/
def tyD : D → Option String
  | .non => some "NoneType"
  | .bl _ => some "bool"
  | .int _ => some "int"
  | .str _ => some "str"
  | .tup _ => some "tuple"
  | .lst _ => some "list"
  | _ => none
def isiD (T : String) (d : D) : Option Wv := match tyD d with
  | some t => (kitB t T).map fun b => .val (.bl b)
  | none => none
theorem tyD_rp {d : D} {v : V} {t : String} (hK : g.K = X.K) (r : Rp g H d v) (h : tyD d = some t) : TyX X.K H v (.type t) := by
  cases r with
  | non => cases h; exact .base .non
  | bl b => cases h; exact .base (.bl b)
  | int i => cases h; exact .base (.int i)
  | str x => cases h; exact .base (.str x)
  | fn _ => cases h
  | scr _ => cases h
  | exc _ _ => cases h
  | clo _ _ => cases h
  | lst hs _ => cases h; exact .base (.lst hs)
  | tup hs _ =>
    cases h
    rcases hs with (hs | ⟨o, hs⟩) | ⟨o, its, n, h1, h2, _⟩
    · exact .base (.tup hs)
    · exact .fTuple hs
    · rw [hK] at h1
      exact .kTuple h1 h2
theorem fe_isi {a : Expr} {fa : Ev} {T : String} {y : Str} {p2 : Pos} (hm : X.mg "isinstance" = none) (hmT : X.mg y = none) (ha : FE g X Z a fa) (hvT : bootBuiltins y = some (.type T) := by first | rfl | decide +kernel) (hK : g.K = X.K := by rfl) (hv : bootBuiltins "isinstance" = some (.builtin "isinstance") := by first | rfl | decide +kernel) (hg : Gl X "isinstance" := by rfl) (hgT : Gl X y := by rfl) (hnT : y ≠ "__name__" := by decide) (hdT : (y == ("__debug__" : Str)) = false := by decide)
    (he : starEach [a, .Name y p2] X.env = (false, eval a X.env) :: starEach [.Name y p2] X.env := by rfl) (he2 : starEach [.Name y p2] X.env = (false, eval (.Name y p2) X.env) :: starEach [] X.env := by rfl) (hpl : (backTo pos (starEach [.Name y p2] X.env)).any (·.1) = false := by rfl) :
    FE g X Z (.Call (.Name "isinstance" p) [a, .Name y p2] [] pos) (unE (isiD T) fa) := by
  have hT : PE X (.Name y p2) (tC (.ty T)) := pe_bltn hgT hmT hvT rfl hnT hdT
  refine pe_imp (pe_callB call_isi hg hm hv (pa_cons ha (pa_cons hT pa_nil he2) he) (by decide) (by decide) he hpl) fun σ H Q ⟨C, F, ρ, R, P⟩ => ?_
  refine post_bind R P fun F1 H1 ρ1 w v s1 R1 r1 n1 P1 => ?_
  refine lift1_use (r := fun v H Q => rIsi X.K [v, .ty T] H Q) ?_ R1 r1 P1
  intro C F H ρ σ d v1 w Q R r1 e P
  unfold isiD at e
  split at e
  · rename_i t ht
    obtain ⟨b, h1, rfl⟩ := Option.map_eq_some_iff.mp e
    exact ⟨v1, .ty T, .type t, .type T, b, rfl, .ty T, tyD_rp hK (r1.all R.sub) ht, kit_ty h1, P F H (Same.refl F) R _ (.bl b)⟩
  · cases e

/-! ### methods of texts -/
def splitD : D → D → Option Wv
  | .str a, .str b => if (b.length == 0) = false ∧ a.length + 2 ≤ sizeLine then some (.new (.lst ((Txt.split a b).map .str))) else none
  | _, _ => none
def joinD : D → D → Option Wv
  | .str a, .lst l => (asStrs l).bind fun ys => if (ys.map (·.length)).sum + ys.length * a.length ≤ 16777216 then some (.val (.str (Txt.join a ys))) else none
  | _, _ => none
def upperD : D → Option Wv
  | .str a => if a.length ≤ 5592405 then some (.val (.str (Txt.upper a))) else none
  | _ => none
def isStrD : D → Bool
  | .str _ => true
  | _ => false
/-- o.m(e): o a text first -/
def mthE (sem : D → D → Option Wv) (fo fe : Ev) : Ev := bindG fo fun w1 ρ => match w1 with
  | .val (.str a) => bindG fe (fun w2 => lift1 (sem (.str a)) w2) ρ
  | _ => .bad
theorem fe_m1 {o : Expr} {fo fe : Ev} {r : V → List V → Hp → VK → Prop} {sem : D → D → Option Wv} {name : Str} {apos cpos : Pos} (h : PE X (.Call (.Attribute o name apos) [e] [] cpos) (tM1 r (tE g Z fo) (tE g Z fe))) (hs : ∀ a, SemU g (fun v H Q => r (.str a) [v] H Q) (sem (.str a))) :
    FE g X Z (.Call (.Attribute o name apos) [e] [] cpos) (mthE sem fo fe) := pe_imp h fun σ H Q ⟨C, F, ρ, R, P⟩ => post_bind R P fun F1 H1 ρ1 w v s1 R1 r1 n1 P1 => by
  cases w with
  | bor i => exact P1.elim
  | new o => exact P1.elim
  | val d =>
    cases d with
    | str a =>
      cases r1
      refine ⟨⟨a, rfl⟩, ?_⟩
      exact post_bind R1 P1 fun F2 H2 ρ2 w2 v2 s2 R2 r2 n2 P2 => lift1_use (hs a) R2 r2 P2
    | _ => exact P1.elim
theorem fe_split {o : Expr} {fo fe : Ev} {apos cpos : Pos} (ho : FE g X Z o fo) (he : FE g X Z e fe) (hs : starEach [e] X.env = [(false, eval e X.env)] := by rfl) (hbase : attributeBase o "split" X.env (eval o X.env) = eval o X.env := by rfl) (hline : (apos.endLine == cpos.line) = true := by rfl) :
    FE g X Z (.Call (.Attribute o "split" apos) [e] [] cpos) (mthE splitD fo fe) := fe_m1 (pe_split ho he hs hbase hline) fun a C F H ρ σ d v1 w Q R r1 e P => by
  cases d <;> first | (cases e; done) | skip
  simp only [splitD] at e
  split at e
  · rename_i hc
    cases r1; cases e
    exact ⟨a, _, rfl, rfl, hc.1, hc.2, fun p hp => P F _ (Same.refl F) (R.newLst hp (strs_rp _)).1 (.ref p) (R.newLst hp (strs_rp _)).2⟩
  · cases e
theorem fe_join {o : Expr} {fo fe : Ev} {apos cpos : Pos} (ho : FE g X Z o fo) (he : FE g X Z e fe) (hs : starEach [e] X.env = [(false, eval e X.env)] := by rfl) (hbase : attributeBase o "join" X.env (eval o X.env) = eval o X.env := by rfl) (hline : (apos.endLine == cpos.line) = true := by rfl) :
    FE g X Z (.Call (.Attribute o "join" apos) [e] [] cpos) (mthE joinD fo fe) := fe_m1 (pe_join ho he hs hbase hline) fun a C F H ρ σ d v1 w Q R r1 e P => by
  cases d <;> first | (cases e; done) | skip
  obtain ⟨ys, h1, h2⟩ := Option.bind_eq_some_iff.mp e
  split at h2
  · rename_i hc
    cases h2
    obtain ⟨p, vs, rfl, hs, q⟩ := r1
    have ev := asStrs_rp q h1
    subst ev
    exact ⟨a, p, ys, rfl, rfl, .inl (.inl (.inl hs)), hc, P F H (Same.refl F) R _ (.str _)⟩
  · cases h2
theorem fe_upper {o : Expr} {fo : Ev} {apos cpos : Pos} (ho : FE g X Z o fo) (hbase : attributeBase o "upper" X.env (eval o X.env) = eval o X.env := by rfl) (hline : (apos.endLine == cpos.line) = true := by rfl) :
    FE g X Z (.Call (.Attribute o "upper" apos) [] [] cpos) (unE upperD fo) := pe_imp (pe_upper ho hbase hline) fun σ H Q ⟨C, F, ρ, R, P⟩ => post_bind R P fun F1 H1 ρ1 w v s1 R1 r1 n1 P1 => by
  refine lift1_use (r := fun v H Q => (∃ a, v = .str a) ∧ ∃ a, v = .str a ∧ ([] : List V) = [] ∧ a.length ≤ 5592405 ∧ Q (.str (Txt.upper a)) H) ?_ R1 r1 P1
  intro C F H ρ σ d v1 w Q R r1 e P
  cases d <;> first | (cases e; done) | skip
  simp only [upperD] at e
  split at e
  · rename_i hc
    cases r1; cases e
    exact ⟨⟨_, rfl⟩, _, rfl, rfl, hc, P F H (Same.refl F) R _ (.str _)⟩
  · cases e
end
end FX
namespace FX
open PySem PySem.Spec PyProof.Rows L2

/-! ### raise -/
def raiseS (x : Str) : Sv := fun ρ => .ex ⟨x, none⟩ ρ
/-- what is known of an own error's class -/
structure ExK (g : G) (x : Str) (C : Addr) : Prop where
  gl : g.mg x = some (.ref C)
  mkx : PySem.W.excIn g.K C He.veBase "ValueError.__new__" = true
  kp : PySem.W.keepIn g.K (.ref C) = true
  sb : PySem.W.subIn g.K (.ref C) (.type "BaseException") = some true
  ty : PySem.W.typeIn g.K (.ref C) = some (.type "type")
theorem fs_raise {g : G} {X : Cx} {Z : WX} {x m : Str} {C : Addr} {j : Nat} {p p2 pos pos' : Pos} (E : ExK g x C) (tk : L2N.Takes X Z) (hc : X.calm = true := by rfl) (hg : Gl X x := by rfl) (hK : X.K = g.K := by rfl) (hM : X.mg = g.mg := by rfl) (hdb : (x == ("__debug__" : Str)) = false := by decide) :
    FS g X Z (.Raise (some (.Call (.Name x p) [.Constant (.str m) j p2] [] pos)) none pos') (raiseS x) := by
  refine ps_imp (L2N.ps_raise hc tk (L2N.pmk_own PySem.F.excBase_ValueError (by rw [hK]; exact E.mkx) (by rw [hM]; exact E.gl) (by rw [hK]; exact E.kp) (raises_own (by rw [hK]; exact E.sb) (by rw [hK]; exact E.ty)) hg hdb)) fun N σ H ⟨C', F, ρ, R, P⟩ => ?_
  exact P F H σ (.ref C) none (Same.refl F) R ⟨C, E.gl, rfl, rfl⟩

/-! ### a handled error at hand: the end of a walk -/
section
variable {prog : Program} {w : World} {A : Around} {E : Value → Shared → Prop} {s : Shared}
open HotX (HotAt)
theorem hot_mv {x1 : Addr} {h h' : Heap} (k : HotAt A x1 h) (e : ∀ o, h.get? x1 = some o → h'.get? x1 = some o) : HotAt A x1 h' := by
  obtain ⟨k1, o, vs, k2, k3, k4⟩ := k
  exact ⟨k1, o, vs, e o k2, k3, k4⟩
theorem nx_end {it l x1 : Addr} {i : Nat} {xs : Array Value} {Q : Value → Shared → Prop} (hot : HotAt A x1 s.heap) (a1 : s.heap.IsListIter it l i) (a2 : s.heap.IsList l xs) (a3 : xs[i]? = none)
    (fin : ∀ h' e, (∀ c o, c ≠ it → s.heap.get? c = some o → h'.get? c = some o) → (∃ o, h'.get? e = some o ∧ o.cls = .type "StopIteration") → E (.ref e) { s with heap := h' }) : wpAny (model prog w) A (Builtin.SmallTypes.nextOf (.ref it)) Q E s := by
  obtain ⟨oi, g1, g2, g3⟩ := id a1
  obtain ⟨ol, g4, _, nl, g5⟩ := a2
  obtain ⟨k1, ox, vx, k2, k3, k4⟩ := hot
  have nx : x1 ≠ it := fun z => by
    rw [z, g1] at k2; cases k2
    rw [g3] at k3; cases k3
    simp at k4
  unfold Builtin.SmallTypes.nextOf
  refine wpAny_bind (wpAny_callSpecial?_slot (name := Str.ofString "__next__") a1.typeIs slot_listiter_next (wpAny_call_entry slot_listiter_next a1.typeIs entry_listiter_next (?_ : wpAny _ _ (field (.ref it) 0 >>= _) _ _ s) (args_listiter_next _)))
  refine wpAny_bind (wpAny_field g1 g3 (x := .ref l) rfl (?_ : wpAny _ _ (if (Value.ref l == Value.none) = true then _ else _) _ _ s))
  rw [if_neg (show ¬(Value.ref l == .none) = true by simp)]
  refine (?_ : wpAny _ _ (field (.ref it) 1 >>= _) _ _ s)
  refine wpAny_bind (wpAny_field g1 g3 (x := .int i 0) rfl (?_ : wpAny _ _ (seqItems? (.ref l) >>= _) _ _ s))
  refine wpAny_bind (wpAny_seqItems g4 g5 ?_)
  simp only [a3, Int.toNat_natCast]
  refine wpAny_bind (wpAny_rule (wpAny_bind (wpAny_setField g1 g3 (by simp) (?_ : wpAny _ _ (newExc (.type "StopIteration") [] >>= _) _ _ _))))
  refine wpAny_bind ?_; simp only [newExc, newTuple]
  refine wpAny_bind (wpAny_newObj_type (wpAny_bind (m := firstArgMember _ _) (wpAny_of_eq (a := Value.none) (by first | rfl | (simp only [firstArgMember]; rfl)) (wpAny_newObj_type ?_ (by size_fits)))) (by size_fits))
  have up : ∀ c o, c ≠ it → s.heap.get? c = some o → ∀ o1 o2 : Obj, (((s.heap.update it (Obj.mapFields (·.setIfInBounds 0 Value.none))).push o1).push o2).get? c = some o := fun c o nc e o1 o2 => Heap.get?_push_of_some _ (Heap.get?_push_of_some _ ((Heap.get?_update_other _ _ (Ne.symm nc)).trans e))
  refine HotX.raiseNew_hot ⟨k1, ox, vx, up _ _ nx k2 _ _, k3, k4⟩ (Nat.ne_of_lt (Heap.lt_size (Heap.get?_push_of_some _ ((Heap.get?_update_other _ _ (Ne.symm nx)).trans k2)))) (Heap.get?_push_size _ rfl) rfl (by first | (simp; done) | (simp; omega)) ?_
  refine fin _ _ (fun c o nc e => ?_) ⟨_, Heap.get?_update_self _ (Heap.get?_push_size _ rfl) rfl, rfl⟩
  rw [Heap.get?_update_other _ _ (Nat.ne_of_gt (Heap.lt_size (Heap.get?_push_of_some _ ((Heap.get?_update_other _ _ (Ne.symm nc)).trans e))))]
  exact up c o nc e _ _

theorem isz_ne {z TI TO x1 : Addr} {f0 : Value} {h : Heap} (hot : HotAt A x1 h) (e : IsZip h z TI TO f0) : x1 ≠ z := fun q => by
  obtain ⟨k1, ox, vx, k2, k3, k4⟩ := hot
  rw [q, e] at k2; cases k2; cases k3
  simp at k4
theorem pair_ne {T x1 : Addr} {a b : Value} {h : Heap} (hot : HotAt A x1 h) (e : IsPair h T a b) : x1 ≠ T := fun q => by
  obtain ⟨k1, ox, vx, k2, k3, k4⟩ := hot
  rw [q, e] at k2; cases k2; cases k3
theorem iter_ne {it l x1 : Addr} {i : Nat} {h : Heap} (hot : HotAt A x1 h) (e : h.IsListIter it l i) : x1 ≠ it := fun q => by
  obtain ⟨k1, ox, vx, k2, k3, k4⟩ := hot
  obtain ⟨oi, g1, g2, g3⟩ := e
  rw [q, g1] at k2; cases k2
  rw [g3] at k3; cases k3
  simp at k4
/-- zip's end -/
theorem zip_hot {z TI TO i1 i2 l1 l2 x1 : Addr} {n m : Nat} {xs ys : Array Value} {a b : Value} {Q : Option Value → Shared → Prop} (hot : HotAt A x1 s.heap) (D : ZipApart z TI TO i1 i2 l1 l2) (cz : IsZip s.heap z TI TO .none) (cI : IsPair s.heap TI (.ref i1) (.ref i2)) (cO : IsPair s.heap TO a b)
    (c1 : s.heap.IsListIter i1 l1 n) (c2 : s.heap.IsListIter i2 l2 m) (d1 : s.heap.IsList l1 xs) (d2 : s.heap.IsList l2 ys) (stop : xs[n]? = none ∨ ys[m]? = none)
    (fin : ∀ h', (∀ c o, c ≠ z → c ≠ TO → c ≠ i1 → c ≠ i2 → s.heap.get? c = some o → h'.get? c = some o) → Q none { s with heap := h' }) : wpAny (model prog w) A (pyNext (.ref z)) Q E s := by
  have ty : s.TypeIs (.ref z) "zip" := ⟨_, cz, rfl⟩
  have n1 := isz_ne hot cz
  have n2 := pair_ne hot cO
  have n3 := iter_ne hot c1
  have n4 := iter_ne hot c2
  have stopped : ∀ h' e, (∀ c o, c ≠ z → c ≠ TO → c ≠ i1 → c ≠ i2 → s.heap.get? c = some o → h'.get? c = some o) → (∃ o, h'.get? e = some o ∧ o.cls = .type "StopIteration") →
      wpAny (model prog w) A (do if ← isInstance (.ref e) (.type "StopIteration") then pure none else throw (.ref e)) Q E { s with heap := h' } := fun h' e k ⟨o, ho, hc⟩ =>
    wpAny_bind (wpAny_isInstance (T := "StopIteration") (b := true) ⟨o, ho, hc⟩ isSubtype_stop (wpAny_pure (fin h' k)))
  unfold pyNext
  refine wpAny_bind (wpAny_attempt (wpAny_callSpecial?_slot (name := Str.ofString "__next__") ty F.slot_zip_next (wpAny_call_entry F.slot_zip_next ty F.entry_zip_next (?_ : wpAny _ _ (field (.ref z) 2 >>= _) _ _ _) (F.args_zip_next_1 _))))
  refine wpAny_bind (wpAny_field cz rfl (x := .bool false) rfl (?_ : wpAny _ _ (field (.ref z) 3 >>= _) _ _ _))
  refine wpAny_bind (wpAny_field cz rfl (x := .ref TI) rfl (wpAny_bind (wpAny_seqItems cI rfl (?_ : wpAny _ _ (Builtin.SmallTypes.ownedTupleIsFree (.ref z) >>= _) _ _ _))))
  refine wpAny_bind ?_; unfold Builtin.SmallTypes.ownedTupleIsFree
  refine wpAny_bind (wpAny_field cz rfl (x := .none) rfl (wpAny_pure ?_)); simp only [if_true]
  refine wpAny_bind (wpAny_rule (wpAny_bind (wpAny_field cz rfl (x := .ref TO) rfl (wpAny_bind (wpAny_setField_rec cz (by simp) fun ha za sa => ?_)))))
  replace za : IsZip ha z TI TO .ellipsis := za
  have kb : ∀ c o, c ≠ z → s.heap.get? c = some o → ha.get? c = some o := fun c o q e => sa.extBut c o q e
  refine wpAny_bind ?_; simp only [List.zipIdx_nil, List.zipIdx_cons, List.forIn_nil, List.forIn_cons]
  refine wpAny_bind (wpAny_bind (wpAny_onRaise (?_ : wpAny _ _ (Builtin.SmallTypes.nextOf (.ref i1) >>= _) _ _ _)))
  cases q1 : xs[n]? with
  | none =>
    refine wpAny_bind (nx_end (hot_mv hot fun o e => kb _ o n1 e) (c1.extBut sa.extBut D.i1z) (d1.extBut sa.extBut D.l1z) q1 fun hb e kc ⟨oe, he, hce⟩ => ?_)
    have zb := kc _ _ D.i1z.symm za
    have ez : e ≠ z := fun q => by rw [q, zb] at he; cases he; simp at hce
    exact wpAny_setField_rec zb (by simp) fun hd _ sd => stopped hd e (fun c o y1 _ y3 _ y => sd.extBut _ _ y1 (kc _ _ y3 (kb _ _ y1 y))) ⟨oe, sd.extBut _ _ ez he, hce⟩
  | some x =>
    have q2 : ys[m]? = none := stop.resolve_left fun q => by rw [q1] at q; cases q
    refine wpAny_bind (wpAny_nextOf_list_item (c1.extBut sa.extBut D.i1z) (d1.extBut sa.extBut D.l1z) q1 fun hb c1b sb => wpAny_pure ?_)
    have cOb : IsPair hb TO a b := sb.extBut _ _ D.TOi1 (kb _ _ D.TOz cO)
    refine wpAny_bind (wpAny_seqItems cOb rfl (wpAny_bind (wpAny_updateSeq_pair cOb fun hc cOc sc => wpAny_bind (wpAny_letGo (wpAny_pure ?_)))))
    refine wpAny_bind (wpAny_bind (wpAny_onRaise (?_ : wpAny _ _ (Builtin.SmallTypes.nextOf (.ref i2) >>= _) _ _ _)))
    have kd : ∀ c o, c ≠ z → c ≠ TO → c ≠ i1 → s.heap.get? c = some o → hc.get? c = some o := fun c o y1 y2 y3 y => sc.extBut _ _ y2 (sb.extBut _ _ y3 (kb _ _ y1 y))
    refine wpAny_bind (nx_end (hot_mv hot fun o e => kd _ o n1 n2 n3 e) (c2.at fun o e => kd _ o D.i2z D.TOi2.symm D.i12.symm e) (d2.at fun o e => kd _ o D.l2z D.l2TO D.l2i1 e) q2 fun hd e ke ⟨oe, he, hce⟩ => ?_)
    have zd := ke _ _ D.i2z.symm (sc.extBut _ _ D.TOz.symm (sb.extBut _ _ D.i1z.symm za))
    have ez : e ≠ z := fun q => by rw [q, zd] at he; cases he; simp at hce
    exact wpAny_setField_rec zd (by simp) fun hf _ sf => stopped hf e (fun c o y1 y2 y3 y4 y => sf.extBut _ _ y1 (ke _ _ y4 (kd _ _ y1 y2 y3 y))) ⟨oe, sf.extBut _ _ ez he, hce⟩
end
end FX
namespace FX
open PySem PySem.Spec PyProof.Rows L2
open HotX (HotAt)

/-! ### a walk by turns where an error is handled -/
structure TnH (P : Program) (w : World) (K : PySem.W.Frag) (tg : Expr) (J : It) (ch : List Addr) (it : Addr) (tn : Nat → Heap → Prop) : Prop where
  obj : ∀ i h, tn i h → ∀ b ∈ ch, ∃ o, h.get? b = some o ∧ ∀ v, o.data ≠ .cell v
  keep : ∀ i h h', tn i h → (∀ b ∈ ch, ∀ o, h.get? b = some o → h'.get? b = some o) → tn i h'
  item : ∀ {X : Cx} {i : Nat} {pins : List (Addr × Obj)} {s : Shared} {σ : St} {H : Hp}, X.prog = P → X.w = w → X.K = K → Inv X pins σ H s → (∀ b ∈ ch, FpOk X pins H b) → tn i s.heap → J.go i H →
    wpAny (model P w) X.A (pyNext (.ref it)) (fun r s1 => ∃ u, r = some u ∧ wpAny (model P w) X.A (letOwnedTupleGo tg (.ref it) u) (fun _ s2 => ∃ x H', Inv X pins σ H' s2 ∧ RelV x u ∧ J.yld i H x H' ∧ tn (i + 1) s2.heap ∧ ∀ b ∈ ch, H' b = none) (fun _ _ => False) s1) (fun _ _ => False) s
  done : ∀ {X : Cx} {i : Nat} {x1 : Addr} {pins : List (Addr × Obj)} {s : Shared} {σ : St} {H : Hp}, X.prog = P → X.w = w → X.K = K → HotAt X.A x1 s.heap → Inv X pins σ H s → (∀ b ∈ ch, FpOk X pins H b) → tn i s.heap → J.stop i H →
    wpAny (model P w) X.A (pyNext (.ref it)) (fun r s1 => r = none ∧ Inv X pins σ H s1) (fun _ _ => False) s
  self : ∀ {A : Around} {i : Nat} {s : Shared} {Q E : Value → Shared → Prop}, tn i s.heap → Q (.ref it) s → wpAny (model P w) A (pyIter (.ref it)) Q E s
/-- an iterator has come, there -/
def PieH (X : Cx) (pins : List (Addr × Obj)) (σ : St) (tg : Expr) (R : It → Hp → Prop) (itv : Value) (s2 : Shared) : Prop :=
  ∃ (it : Addr) (ch : List Addr) (tn : Nat → Heap → Prop) (J : It) (H' : Hp), itv = .ref it ∧ Inv X pins σ H' s2 ∧ TnH X.prog X.w X.K tg J ch it tn ∧ tn 0 s2.heap ∧ (∀ b ∈ ch, FpOk X pins H' b) ∧ R J H'
def PiH (X : Cx) (tg iter : Expr) (wi : TI) : Prop := ∀ (pins : List (Addr × Obj)) (s : Shared) (σ : St) (H : Hp) (R : It → Hp → Prop), Inv X pins σ H s → wi σ H R →
  wpAny (model X.prog X.w) X.A (eval iter X.env) (fun v s1 => wpAny (model X.prog X.w) X.A (pyIter v) (PieH X pins σ tg R) X.xe s1) X.xe s
section
variable {P : Program} {w : World} {K : PySem.W.Frag} {elts : List Expr} {kk : Nat} {tpos : Pos} {a b z TI TO i1 i2 : Addr}
def ZSt (z TI TO i1 i2 a b : Addr) (i : Nat) (h : Heap) : Prop := IsZip h z TI TO .none ∧ IsPair h TI (.ref i1) (.ref i2) ∧ (∃ x y, IsPair h TO x y) ∧ h.IsListIter i1 a i ∧ h.IsListIter i2 b i
theorem five {c : Addr} (h : c ∈ [z, TI, TO, i1, i2]) : c = z ∨ c = TI ∨ c = TO ∨ c = i1 ∨ c = i2 := by simpa using h
theorem ZSt.get {i : Nat} {h : Heap} (t : ZSt z TI TO i1 i2 a b i h) {c : Addr} (hc : c ∈ [z, TI, TO, i1, i2]) : ∃ o, h.get? c = some o ∧ ∀ v, o.data ≠ .cell v := by
  obtain ⟨t1, t2, ⟨x, y, t3⟩, ⟨o1, e1, _, d1⟩, ⟨o2, e2, _, d2⟩⟩ := t
  rcases five hc with rfl | rfl | rfl | rfl | rfl
  · exact ⟨_, t1, fun v => nofun⟩
  · exact ⟨_, t2, fun v => nofun⟩
  · exact ⟨_, t3, fun v => nofun⟩
  · exact ⟨o1, e1, fun v => by rw [d1]; exact nofun⟩
  · exact ⟨o2, e2, fun v => by rw [d2]; exact nofun⟩
theorem zip_tn (D : ZipApart z TI TO i1 i2 a b) : TnH P w K (.Tuple elts kk tpos) (Itz K a b) [z, TI, TO, i1, i2] z (ZSt z TI TO i1 i2 a b) where
  obj := fun i h st c hc => st.get hc
  keep := fun i h h' ⟨t1, t2, ⟨x, y, t3⟩, t4, t5⟩ k => ⟨k z (by simp) _ t1, k TI (by simp) _ t2, ⟨x, y, k TO (by simp) _ t3⟩, t4.at (k i1 (by simp)), t5.at (k i2 (by simp))⟩
  item := by
    intro X i pins s σ H eP ew eK I free st go
    subst eP ew eK
    have old : ∀ c ∈ [z, TI, TO, i1, i2], c < s.heap.objs.size := fun c hc => (st.get hc).elim fun o e => Heap.lt_size e.1
    obtain ⟨t1, t2, ⟨x0, y0, t3⟩, t4, t5⟩ := st
    obtain ⟨xs, ys, x, y, sx, sy, ex, ey⟩ := go
    obtain ⟨us, rx, lx, _⟩ := I.list sx
    obtain ⟨vs, ry, ly, _⟩ := I.list sy
    obtain ⟨u, eu, ru⟩ := rx.get ex
    obtain ⟨v, ev, rv⟩ := ry.get ey
    refine wpAny_pyNext_zip_item (x := u) (y := v) D t1 t2 t3 t4 t5 lx.isList ly.isList (by simpa using eu) (by simpa using ev) fun h1 m1 m2 m3 m4 m5 _ k1 => ⟨_, rfl, wpAny_letOwnedTupleGo_zip (s := { s with heap := h1 }) m1 fun h2 z2 sb => ?_⟩
    have k2 : ∀ c o, c ∉ [z, TI, TO, i1, i2] → s.heap.get? c = some o → h2.get? c = some o := fun c o nc e => by
      simp only [List.mem_cons, not_or] at nc
      exact (sb.2 c nc.1).trans (k1 c o nc.1 nc.2.2.1 nc.2.2.2.1 nc.2.2.2.2.1 e)
    have pr : h2.get? s.heap.objs.size = some { cls := .type "tuple", data := .seq #[u, v] } := (sb.2 _ (Nat.ne_of_gt (old z (by simp)))).trans m5
    have J := I.turnedNew (t' := s.toks) (ob := .tup [x, y]) k2 free (Nat.le_refl _) ⟨(by decide : 2 ≤ sizeLine), [u, v], .cons ru (.cons rv .nil), ⟨_, pr, rfl, _, rfl⟩⟩
    refine ⟨.ref s.heap.objs.size, _, J, rfl, ⟨_, x, y, rfl, I.hok.fresh (Nat.le_refl _), rfl, fun l hl => I.list_inj hl sx ▸ ex, fun l hl => I.list_inj hl sy ▸ ey⟩, ⟨z2, (sb.2 _ D.TIz).trans (k1 _ _ D.TIz D.TITO D.TIi1 D.TIi2 t2), ⟨u, v, (sb.2 _ D.TOz).trans m2⟩, m3.at fun o e => (sb.2 _ D.i1z).trans e, m4.at fun o e => (sb.2 _ D.i2z).trans e⟩, fun c hc => ?_⟩
    rw [upd_ne (Nat.ne_of_lt (old c hc))]
    exact (free c hc).1
  done := by
    intro X i x1 pins s σ H eP ew eK hot I free st stop
    subst eP ew eK
    obtain ⟨t1, t2, ⟨x0, y0, t3⟩, t4, t5⟩ := st
    obtain ⟨xs, ys, sx, sy, e⟩ := stop
    obtain ⟨us, rx, lx, _⟩ := I.list sx
    obtain ⟨vs, ry, ly, _⟩ := I.list sy
    have l1 := rx.length
    have l2 := ry.length
    refine zip_hot hot D t1 t2 t3 t4 t5 lx.isList ly.isList (e.imp (fun q => by simp; omega) fun q => by simp; omega) fun h1 k1 => ⟨rfl, I.turnedL (t' := s.toks) (ch := [z, TI, TO, i1, i2]) (fun c o nc e => ?_) free⟩
    simp only [List.mem_cons, not_or] at nc
    exact k1 c o nc.1 nc.2.2.1 nc.2.2.2.1 nc.2.2.2.2.1 e
  self := fun st q => wpAny_pyIter_zip st.1 q
end
section
variable {X : Cx} {e e2 : Expr} {ta : TA} {p pos tpos : Pos} {elts : List Expr} {kk : Nat}
theorem piH_zip (hg : Gl X "zip") (hm : X.mg "zip" = none) (ha : PA X [e, e2] ta) (hs : starEach [e, e2] X.env = (false, eval e X.env) :: starEach [e2] X.env := by rfl) (hpl : (backTo pos (starEach [e2] X.env)).any (·.1) = false := by rfl) :
    PiH X (.Tuple elts kk tpos) (.Call (.Name "zip" p) [e, e2] [] pos) (iZip X.K ta) := fun pins s σ H R I h => by
  refine Call_ (ld_blt I hg hm PyProof.Rows.boot_zip (PyProof.Rows.callWith_type1 (thn (ha.run pos pins s σ H _ I h) fun us s1 ⟨vs, H1, I1, rs, a, b, xs, ys, ev, sx, sy, q⟩ => ?_) hs hpl))
  subst ev
  cases rs with | cons ra rs =>
  cases rs with | cons rb rs =>
  cases rs; cases ra; cases rb
  obtain ⟨us, rx, lx, _⟩ := I1.list sx
  obtain ⟨ws, ry, ly, _⟩ := I1.list sy
  refine call_zip_2 lx.isList ly.isList fun h1 t1 t2 t3 t4 t5 _ k1 => wpAny_pyIter_zip t1 ?_
  have fr : ∀ c ∈ [s1.heap.objs.size + 4, s1.heap.objs.size + 2, s1.heap.objs.size + 3, s1.heap.objs.size, s1.heap.objs.size + 1], s1.heap.objs.size ≤ c := fun c hc => by
    rcases five hc with rfl | rfl | rfl | rfl | rfl <;> first | exact Nat.le_refl _ | exact Nat.le_add_right _ _
  exact ⟨_, _, _, _, H1, rfl, I1.kept (t' := s1.toks) k1, zip_tn (PySem.W.ktu_apart _ a b lx.lt ly.lt), ⟨t1, t2, ⟨_, _, t3⟩, t4, t5⟩, fun c hc => I1.fpOk (fr c hc) (I1.hok.fresh (fr c hc)), q⟩
end

/-! ### a tuple's parts where an error is handled -/
section
variable {prog : Program} {w : World} {A : Around} {E : Value → Shared → Prop} {s : Shared}
theorem tup_hot {it t x1 : Addr} {i : Nat} {xs : Array Value} {Q : Option Value → Shared → Prop} (hot : HotAt A x1 s.heap) (a1 : IsTupIter s.heap it t i) (a2 : IsTup s.heap t xs) (a3 : xs[i]? = none) (fin : ∀ h', Heap.ExtBut it s.heap h' → Q none { s with heap := h' }) : wpAny (model prog w) A (pyNext (.ref it)) Q E s := by
  obtain ⟨oi, g1, g2, g3⟩ := id a1
  obtain ⟨ol, g4, _, nl, g5⟩ := a2
  obtain ⟨k1, ox, vx, k2, k3, k4⟩ := hot
  have nx : x1 ≠ it := fun z => by
    rw [z, g1] at k2; cases k2
    rw [g3] at k3; cases k3
    simp at k4
  unfold pyNext
  refine wpAny_bind (wpAny_attempt (wpAny_callSpecial?_slot (name := Str.ofString "__next__") a1.typeIs slot_tupleiter_next (wpAny_call_entry slot_tupleiter_next a1.typeIs entry_tupleiter_next (?_ : wpAny _ _ (field (.ref it) 0 >>= _) _ _ s) (args_tupleiter_next _))))
  refine wpAny_bind (wpAny_field g1 g3 (x := .ref t) rfl (?_ : wpAny _ _ (if (Value.ref t == Value.none) = true then _ else _) _ _ s))
  rw [if_neg (show ¬(Value.ref t == .none) = true by simp)]
  refine (?_ : wpAny _ _ (field (.ref it) 1 >>= _) _ _ s)
  refine wpAny_bind (wpAny_field g1 g3 (x := .int i 0) rfl (?_ : wpAny _ _ (seqItems? (.ref t) >>= _) _ _ s))
  refine wpAny_bind (wpAny_seqItems g4 g5 ?_)
  simp only [a3, Int.toNat_natCast]
  refine wpAny_bind (wpAny_rule (wpAny_bind (wpAny_setField g1 g3 (by simp) (?_ : wpAny _ _ (newExc (.type "StopIteration") [] >>= _) _ _ _))))
  refine wpAny_bind ?_; simp only [newExc, newTuple]
  refine wpAny_bind (wpAny_newObj_type (wpAny_bind (m := firstArgMember _ _) (wpAny_of_eq (a := Value.none) (by first | rfl | (simp only [firstArgMember]; rfl)) (wpAny_newObj_type ?_ (by size_fits)))) (by size_fits))
  have up : ∀ c o, c ≠ it → s.heap.get? c = some o → ∀ o1 o2 : Obj, (((s.heap.update it (Obj.mapFields (·.setIfInBounds 0 Value.none))).push o1).push o2).get? c = some o := fun c o nc e o1 o2 => Heap.get?_push_of_some _ (Heap.get?_push_of_some _ ((Heap.get?_update_other _ _ (Ne.symm nc)).trans e))
  refine HotX.raiseNew_hot ⟨k1, ox, vx, up _ _ nx k2 _ _, k3, k4⟩ (Nat.ne_of_lt (Heap.lt_size (Heap.get?_push_of_some _ ((Heap.get?_update_other _ _ (Ne.symm nx)).trans k2)))) (Heap.get?_push_size _ rfl) rfl (by first | (simp; done) | (simp; omega)) ?_
  refine wpAny_bind (wpAny_isInstance (T := "StopIteration") (b := true) ⟨_, Heap.get?_update_self _ (Heap.get?_push_size _ rfl) rfl, rfl⟩ isSubtype_stop (wpAny_pure (fin _ fun c o nc e => ?_)))
  rw [Heap.get?_update_other _ _ (Nat.ne_of_gt (Heap.lt_size (Heap.get?_push_of_some _ ((Heap.get?_update_other _ _ (Ne.symm nc)).trans e))))]
  exact up c o nc e _ _
theorem unpack_hot {env : Env} {elts : List Expr} {x2} {pos : Pos} {t x1 : Addr} {xs : Array Value} {Q : Unit → Shared → Prop} (hot : HotAt A x1 s.heap) (ht : IsTup s.heap t xs) (hn : (assignEach elts env).length = xs.size) (hst : (assignEach elts env).findIdx? (·.1) = none)
    (h : ∀ h', Heap.ExtBut s.heap.objs.size s.heap h' → wpAny (model prog w) A (assignInOrder ((assignEach elts env).map (·.2)) xs.toList) Q E { s with heap := h' }) : wpAny (model prog w) A (assign (.Tuple elts x2 pos) env (.ref t)) Q E s := by
  have nt : t ≠ s.heap.objs.size := ht.elim fun o e => Nat.ne_of_lt (Heap.lt_size e.1)
  have nx : x1 ≠ s.heap.objs.size := hot.2.elim fun o e => e.elim fun vs e => Nat.ne_of_lt (Heap.lt_size e.1)
  rw [assign_Tuple]
  refine wpAny_bind (wpAny_standAt ?_)
  unfold unpack
  rw [hn, hst]
  refine wpAny_bind (wpAny_holding ?_)
  unfold unpackItems
  refine wpAny_bind ?_
  unfold notIterableAtAll
  refine wpAny_bind (wpAny_specialOf ht.typeIs slot_tuple_iter.lookup (wpAny_pure ?_))
  simp only [if_false, Bool.false_eq_true]
  refine wpAny_bind (wpAny_holding (iter_tuple ht (wpAny_bind (wpAny_holding (draw_tuple nt xs.size 0 _ _ ⟨_, Heap.get?_push_size _ rfl, rfl, rfl⟩ (ht.push _) (by omega) fun ha ia sa => ?_)))))
  have all : List.take xs.size (List.drop 0 xs.toList) = xs.toList := List.take_of_length_le (by simp)
  rw [all, if_neg (by simp)]
  refine wpAny_bind (wpAny_holding (tup_hot (hot_mv hot fun o e => sa.extBut _ _ nx (Heap.get?_push_of_some _ e)) ia ((ht.push _).extBut sa.extBut nt) (by simp) fun hb eb => ?_))
  simp only [if_false, Bool.false_eq_true, Option.isSome_none]
  exact wpAny_pure (h hb fun b o nb e => eb b o nb (sa.extBut b o nb (Heap.get?_push_of_some _ e)))
end
/-- the handled error stands outside a comprehension's block -/
def HotB (X : Cx) (s : Shared) (H : Hp) (ch : List Addr) : Prop := ∃ p : Addr × Obj, L2H.Hot1 X.A p ∧ s.heap.get? p.1 = some p.2 ∧ H p.1 = none ∧ p.1 ∉ frs X.stack ∧ p.1 ∉ ch
theorem HotB.at {X : Cx} {s s1 : Shared} {H H1 : Hp} {ch : List Addr} {scope : Scope} {ce : Env} {pins : List (Addr × Obj)} {σ : St} (hb : HotB X s H ch) (I : Inv (X.blk s H scope ce ch) pins σ H1 s1) : ∃ x1, HotAt X.A x1 s1.heap :=
  hb.elim fun p ⟨⟨h1, v, e1, c1⟩, h2, h3, h4, h5⟩ => ⟨p.1, h1, p.2, v, I.base.keep p.1 p.2 h2 h3 h4 h5, e1, c1⟩
theorem pg_tupH {X : Cx} {s : Shared} {H : Hp} {ch : List Addr} {scope : Scope} {ce : Env} {es : List Expr} {k n : Nat} {t : TGs} {pos : Pos} (hb : HotB X s H ch) (h : PGs (X.blk s H scope ce ch) es t) (hn : (assignEach es ce).length = n := by rfl) (hst : (assignEach es ce).findIdx? (·.1) = none := by rfl) :
    PG (X.blk s H scope ce ch) (.Tuple es k pos) (gTup X.K n t) := ⟨fun pins s1 σ H1 v u Q I r ⟨a, xs, ev, hq, hl, hw⟩ => by
  subst ev
  cases r
  obtain ⟨its, rv, ht, _⟩ := I.tuple hq
  obtain ⟨x1, hot⟩ := hb.at I
  refine unpack_hot hot ht (by simp [hn, ← hl, rv.length]) hst fun h' hx => ?_
  exact h.run pins _ σ H1 xs _ Q (I.kept (t' := s1.toks) fun b o e => hx b o (Nat.ne_of_lt (Heap.lt_size e)) e) (by simpa using rv) hw⟩

/-! ### a comprehension where an error is handled -/
section
variable {X : Cx}
theorem kept_in {P : Hp} {fs ex : List Addr} {H' : Hp} {h h' : Heap} {a : Addr} (u : Un fs ex P H' h h') (n : P a = none) (nf : a ∉ fs) (nx : a ∉ ex) : ∀ o, h.get? a = some o → h'.get? a = some o := fun o e => u.keep a o e n nf nx
theorem pe_lcH {elt tg iter : Expr} {ifs : List Expr} {scope : Scope} {own : List (Str × Nat)} {pos : Pos} {wi : TI} {gg : TG} {tt : TT} {te : TE} (hot : L2H.HotC X) (hN : X.N.Nodup) (hi : PiH X tg iter wi) (ok : BlkOk X.N X.env.scope scope own)
    (pg : ∀ (s : Shared) (H : Hp) (C : Addr) (cl : List (Str × Addr)) (fp : List Addr), HotB X s H fp → PG (X.blk s H scope (compEnvC scope cl C X.env) fp) tg gg) (pt : ∀ (s : Shared) (H : Hp) (C : Addr) (cl : List (Str × Addr)) (fp : List Addr), PTs (X.blk s H scope (compEnvC scope cl C X.env) fp) ifs tt)
    (pe : ∀ (s : Shared) (H : Hp) (C : Addr) (cl : List (Str × Addr)) (fp : List Addr), PE (X.blk s H scope (compEnvC scope cl C X.env) fp) elt te) (hs : ∀ x, foldedSetIterable iter X.env x = pure x := by intro _; rfl) :
    PE X (.ListComp elt [⟨tg, iter, ifs, 0⟩] scope pos) (tLc wi gg tt te (own.map (·.2))) := ⟨fun pins s σ H Q I h => by
  obtain ⟨px, ⟨hh, v1, dv1, cv1⟩, hpx⟩ := hot
  have cells : ∀ y ∈ scope.names, y.2 = .free → ∃ c, X.env.cells.lookup y.1 = some c := fun y hy e => (ok.free y hy e).elim (fun k => I.ok.has _ (.inl k)) fun k => I.ok.has _ (.inr k)
  rw [eval_ListComp]
  refine wpAny_comprehension_free (use := none) rfl hs (closure_ok cells) ok.kind (fun y hy e => by rw [ok.uniq y hy, e]) (thn (hi pins s σ H _ I h) fun xv s1 hx => thn hx fun itv sA ⟨it, ch, tn, J, HA, eit, IA, T, stA, frA, q⟩ => ?_)
  subst eit
  refine wpAny_newObj_type (newEnv_comp ?_) (by decide : 0 ≤ sizeLine)
  generalize eD : sA.heap.objs.size = D
  have nD : HA D = none := IA.hok.fresh (Nat.le_of_eq eD)
  obtain ⟨W, ⟨m0, w0⟩, turn⟩ := q D nD
  generalize esB : ({ sA with heap := sA.heap.push { cls := .type "list", data := .seq ([] : List Value).toArray } } : Shared) = sB
  have hB : sB.heap = sA.heap.push { cls := .type "list", data := .seq ([] : List Value).toArray } := by rw [← esB]
  have IB : Inv X pins σ (upd HA D (.lst [])) sB := by
    rw [← esB]
    exact IA.laid (t' := sA.toks) (fun b o e => Heap.get?_push_of_some _ e) (Nat.le_of_eq eD) ⟨Nat.zero_le _, [], 0, .nil, by rw [← eD]; exact Heap.get?_push_size _ rfl⟩
  have ltA : ∀ b ∈ ch, b < sA.heap.objs.size := fun b hb => (T.obj _ _ stA b hb).elim fun o e => Heap.lt_size e.1
  have frB : ∀ b ∈ ch, FpOk X pins (upd HA D (.lst [])) b ∧ b < sB.heap.objs.size := fun b hb =>
    ⟨⟨by rw [upd_ne (by rw [← eD]; exact Nat.ne_of_lt (ltA b hb))]; exact (frA b hb).1, (frA b hb).2⟩, by rw [hB, Heap.size_push]; exact Nat.lt_succ_of_lt (ltA b hb)⟩
  have stB : tn 0 sB.heap := T.keep _ _ _ stA fun b _ o e => by rw [hB]; exact Heap.get?_push_of_some _ e
  have IC := block_start IB ok hN frB
  have kt := pt sB (upd HA D (.lst [])) sB.heap.objs.size (cellsFrom (sB.heap.objs.size + 1) scope.names (cloFrom X.env.cells scope.names [])) ch
  have ke := pe sB (upd HA D (.lst [])) sB.heap.objs.size (cellsFrom (sB.heap.objs.size + 1) scope.names (cloFrom X.env.cells scope.names [])) ch
  have px1 := IB.pin px (List.mem_append_left _ hpx)
  have pxS : px.1 ∉ frs X.stack := fun hm => (List.mem_cons.mp (IB.stkSub px.1 hm)).elim px1.2.2.1 px1.2.2.2.1
  have pxC : px.1 ∉ ch := fun hm => (frB _ hm).1.2.2.2.2.2 px (List.mem_append_left _ hpx) rfl
  have kg := pg sB (upd HA D (.lst [])) sB.heap.objs.size (cellsFrom (sB.heap.objs.size + 1) scope.names (cloFrom X.env.cells scope.names [])) ch ⟨px, ⟨hh, v1, dv1, cv1⟩, px1.1, px1.2.1, pxS, pxC⟩
  show codeAny _ _ (.compStart (.ListComp elt [⟨tg, iter, ifs, 0⟩] scope pos) 0 (.ref it) (.ref D) (compEnvC scope (cellsFrom (sB.heap.objs.size + 1) scope.names (cloFrom X.env.cells scope.names [])) sB.heap.objs.size X.env)) (compPost (model X.prog X.w) X.A X.xe none (EP X pins σ Q) (.ref D) sB.heap.objs.size) { sB with heap := pushCells (sB.heap.push { cls := .type "dict", data := .dict #[] }) scope.names }
  have nch : ∀ b ∈ ch, (upd HA D (.lst [])) b = none := fun b hb => (frB b hb).1.1
  generalize ece : compEnvC scope (cellsFrom (sB.heap.objs.size + 1) scope.names (cloFrom X.env.cells scope.names [])) sB.heap.objs.size X.env = ce at IC kg kt ke ⊢
  have eL : ce.locals = sB.heap.objs.size := by subst ece; rfl
  generalize eHB : upd HA D (.lst []) = HB at IB IC kg kt ke w0 nch frB px1
  generalize esC : ({ sB with heap := pushCells (sB.heap.push { cls := .type "dict", data := .dict #[] }) scope.names } : Shared) = sC at IC ⊢
  have stC : tn 0 sC.heap := T.keep _ _ _ stB fun b _ o e => by rw [← esC]; exact pushCells_keeps _ _ _ _ (Heap.get?_push_of_some _ e)
  have frK : ∀ {σ' : St} {H' : Hp} {s' : Shared}, Inv (X.blk sB HB scope ce ch) [] σ' H' s' → (∀ b ∈ ch, H' b = none) → ∀ b ∈ ch, FpOk (X.blk sB HB scope ce ch) [] H' b := fun {σ' H' s'} I' hn b hb =>
    ⟨hn b hb, (I'.ok.exf b hb).1, I'.ok.exfs b hb, .inl hb, (I'.ok.exf b hb).2, fun p hp => nomatch (show p ∈ ([] : List (Addr × Obj)) from hp)⟩
  have loop : codeAny (model X.prog X.w) X.A (.compLoop (.ListComp elt [⟨tg, iter, ifs, 0⟩] scope pos) 0 (.ref it) (.ref D) ce) (compPost (model X.prog X.w) X.A X.xe none (EP X pins σ Q) (.ref D) sB.heap.objs.size) sC := by
    refine compLoop_any (fun n s' => ∃ i H', Inv (X.blk sB HB scope ce ch) [] (wipe σ (own.map (·.2))) H' s' ∧ tn i s'.heap ∧ (∀ b ∈ ch, H' b = none) ∧ W i n H') (fun n sE ⟨i, HE, IE, stE, nE, wE⟩ => ?_) m0 ⟨0, HB, IC, stC, nch, w0⟩
    rcases turn i n HE wE with ⟨stop, fin⟩ | ⟨go, Nx, hNx, step⟩
    · have hotE : HotAt (X.blk sB HB scope ce ch).A px.1 sE.heap := ⟨hh, px.2, v1, kept_in IE.base px1.2.1 pxS pxC _ px1.1, dv1, cv1⟩
      refine thnF (T.done (X := X.blk sB HB scope ce ch) rfl rfl rfl hotE IE (frK IE nE) stE stop) fun r sF ⟨er, IF⟩ => ?_
      subst er
      have IG : Inv X pins σ HE sF := IB.call' (ch := ch) IF.os IF.base IF.hok IF.bare fun b hb => ⟨(frB b hb).1.2.2.2.1, (frB b hb).1.2.1, (frB b hb).1.2.2.2.2.1, (frB b hb).1.2.2.2.2.2⟩
      obtain ⟨m, nsm, _⟩ := IF.loc
      have nsm : sF.heap.Ns ce.locals m := nsm
      have nC : HE ce.locals = none := IF.free
      rw [eL] at nsm nC
      obtain ⟨y0, y1, y2, y3, y4, y5⟩ := IB.fpOk (Nat.le_refl _) nC
      exact ⟨m, nsm, fun h2 sb => ⟨.ref D, HE, IG.turned (t' := sF.toks) (fun b o hb e => (sb.2 b hb).trans e) y0 y1 y3 y4 y5, rfl, fin⟩⟩
    · refine thnF (T.item (X := X.blk sB HB scope ce ch) rfl rfl rfl IE (frK IE nE) stE go) fun r sF ⟨u, er, hF⟩ => ?_
      subst er
      refine thnF hF fun _ sG ⟨x, HG, IG, rG, yG, stG, nG⟩ => thnF (kg.run _ sG _ HG x u _ (IG.pinned (frK IG nG) (T.obj _ _ stG)) rG (step x HG yG)) fun _ sH ⟨σH, HH, IH, ew, qH⟩ => ?_
      refine thnF (kt.run _ sH σH HH _ IH qH) fun b sI ⟨HI, II, qI⟩ => ?_
      have next : ∀ {s' : Shared} {H' : Hp}, Inv (X.blk sB HB scope ce ch) ([] ++ pinsAt ch sG.heap) σH H' s' → Nx H' → ∃ m, m < n ∧ ∃ i H', Inv (X.blk sB HB scope ce ch) [] (wipe σ (own.map (·.2))) H' s' ∧ tn i s'.heap ∧ (∀ b ∈ ch, H' b = none) ∧ W i m H' := fun {s' H'} I' nx => by
        obtain ⟨m', lm, w'⟩ := hNx H' nx
        have still : ∀ b ∈ ch, ∀ o, sG.heap.get? b = some o → s'.heap.get? b = some o ∧ H' b = none := fun b hb o e =>
          (I'.pin (b, o) (List.mem_append_right _ (List.mem_append_right _ (mem_pinsAt hb e)))).elim fun z1 z2 => ⟨z1, z2.1⟩
        refine ⟨m', lm, i + 1, H', (I'.unpinned (pins := [])).weak (by rw [← ew, wipe_length]) (fun j v e => (wipe_some (by rw [ew]; exact e)).1), T.keep _ _ _ stG fun b hb o e => (still b hb o e).1, fun b hb => ?_, w'⟩
        obtain ⟨o, e, _⟩ := T.obj _ _ stG b hb
        exact (still b hb o e).2
      cases b with
      | false =>
        simp only [if_false, Bool.false_eq_true] at qI ⊢
        exact next II qI
      | true =>
        simp only [if_true] at qI ⊢
        exact thnF (ke.run _ sI σH HI _ II qI) fun y sJ ⟨yv, HJ, IJ, rJ, acc, eJ, zJ, nx⟩ => app_ok (X := X.blk sB HB scope ce ch) IJ eJ zJ rJ fun sK IK => next IK nx
  exact codeAny_compStart_list loop (T.self stC loop)⟩
end
end FX
namespace FX
open PySem PySem.Spec PyProof.Rows L2

/-! ### zip -/
def zipI (fs : Av) : Iv := bindA fs fun ws ρ => match grabs ws ρ with
  | some ([.lst l, .lst m], ρ') => .ok (List.zipWith (fun a b => .tup [a, b]) l m) ρ'
  | some ([.tup l, .tup m], ρ') => .ok (List.zipWith (fun a b => .tup [a, b]) l m) ρ'
  | _ => .bad
section
variable {g : G} {C : RC} {F H : Hp} {ρ ρ' : Rho} {σ : St} {Z : WX} {X : Cx} {e e2 : Expr} {fs : Av} {p pos tpos : Pos} {elts : List Expr} {kk : Nat}
theorem zipW_get {l m : List D} {i : Nat} {d : D} (h : (List.zipWith (fun a b => D.tup [a, b]) l m)[i]? = some d) : ∃ a b, l[i]? = some a ∧ m[i]? = some b ∧ d = .tup [a, b] := by
  rw [List.getElem?_zipWith] at h
  cases h1 : l[i]? with
  | none => rw [h1] at h; cases h
  | some a =>
    cases h2 : m[i]? with
    | none => rw [h1, h2] at h; cases h
    | some b => rw [h1, h2] at h; cases h; exact ⟨a, b, rfl, rfl, rfl⟩
theorem jok_zip {a b : Addr} {l m : List D} {xs ys : List V} (h1 : SqL g.K F a xs) (h2 : SqL g.K F b ys) (r1 : RpL g F l xs) (r2 : RpL g F m ys) : JOk g F (Itz g.K a b) (List.zipWith (fun a b => .tup [a, b]) l m) := fun C F' H' ρ σ s R => by
  have q1 := R.sub.seq (s.seq h1)
  have q2 := R.sub.seq (s.seq h2)
  refine ⟨fun i d e => ?_, fun i hi => ⟨xs, ys, q1, q2, by rw [List.length_zipWith] at hi; rw [← r1.length, ← r2.length]; omega⟩⟩
  obtain ⟨da, db, e1, e2, rfl⟩ := zipW_get e
  obtain ⟨x, ex, rx⟩ := r1.get e1
  obtain ⟨y, ey, ry⟩ := r2.get e2
  refine ⟨⟨xs, ys, x, y, q1, q2, ex, ey⟩, fun v H2 ⟨T, x2, y2, ev, nT, eH, f1, f2⟩ => ?_⟩
  have := f1 xs q1
  rw [ex] at this; cases this
  have := f2 ys q2
  rw [ey] at this; cases this
  subst ev eH
  obtain ⟨F2, s2, R2, h3⟩ := R.newTup (l := [da, db]) nT (.cons (rx.mono s) (.cons (ry.mono s) .nil))
  exact ⟨F2, s2, R2, h3⟩
theorem jok_zipT {a b : Addr} {l m : List D} {xs ys : List V} (h1 : SqT g.K F a xs) (h2 : SqT g.K F b ys) (r1 : RpL g F l xs) (r2 : RpL g F m ys) : JOk g F (RZ.ItzT g.K a b) (List.zipWith (fun a b => .tup [a, b]) l m) := fun C F' H' ρ σ s R => by
  have q1 := sqT_same R.sub (sqT_same s h1)
  have q2 := sqT_same R.sub (sqT_same s h2)
  refine ⟨fun i d e => ?_, fun i hi => ⟨xs, ys, q1, q2, by rw [List.length_zipWith] at hi; rw [← r1.length, ← r2.length]; omega⟩⟩
  obtain ⟨da, db, e1, e2, rfl⟩ := zipW_get e
  obtain ⟨x, ex, rx⟩ := r1.get e1
  obtain ⟨y, ey, ry⟩ := r2.get e2
  refine ⟨⟨xs, ys, x, y, q1, q2, ex, ey⟩, fun v H2 ⟨T, x2, y2, ev, nT, eH, f1, f2⟩ => ?_⟩
  have := f1 xs q1
  rw [ex] at this; cases this
  have := f2 ys q2
  rw [ey] at this; cases this
  subst ev eH
  obtain ⟨F2, s2, R2, h3⟩ := R.newTup (l := [da, db]) nT (.cons (rx.mono s) (.cons (ry.mono s) .nil))
  exact ⟨F2, s2, R2, h3⟩
theorem two_get {ws : List Wv} {vs : List V} {da db : D} {ρ' : Rho} (R : Rel g C F H ρ σ) (rs : Paired (RpW g C F H ρ σ) ws vs) (n : ws.all notNew = true) (e : grabs ws ρ = some ([da, db], ρ')) : ∃ F' v w, Same F F' ∧ Rel g C F' H ρ' σ ∧ vs = [v, w] ∧ Rp g F' da v ∧ Rp g F' db w := by
  obtain ⟨F', s, R', r⟩ := grabs_ok R rs n e
  cases r with | cons r1 r =>
  cases r with | cons r2 r =>
  cases r
  exact ⟨F', _, _, s, R', rfl, r1, r2⟩
theorem zipI_use {Q : It → Hp → Prop} (h : tI g Z (zipI fs) σ H Q) : RZ.iZipA g.K (tA g Z fs) σ H Q := by
  obtain ⟨C, F, ρ, R, P⟩ := h
  refine postA_bind R P fun F1 H1 ρ1 ws vs s1 R1 rs n P1 => ?_
  split at P1
  · rename_i l m ρ2 e2
    obtain ⟨F2, v, w, s2, R2, rfl, r1, r2⟩ := two_get R1 rs n e2
    cases r1 with | lst h1 q1 =>
    cases r2 with | lst h2 q2 =>
    exact ⟨_, _, _, _, rfl, .inl ⟨R2.sub.seq (.inl (.inl h1)), R2.sub.seq (.inl (.inl h2)), P1 F2 H1 s2 R2 _ (jok_zip (.inl (.inl h1)) (.inl (.inl h2)) q1 q2)⟩⟩
  · rename_i l m ρ2 e2
    obtain ⟨F2, v, w, s2, R2, rfl, r1, r2⟩ := two_get R1 rs n e2
    cases r1 with | tup h1 q1 =>
    cases r2 with | tup h2 q2 =>
    exact ⟨_, _, _, _, rfl, .inr ⟨sqT_same R2.sub h1, sqT_same R2.sub h2, P1 F2 H1 s2 R2 _ (jok_zipT h1 h2 q1 q2)⟩⟩
  · exact P1.elim
theorem fi_zip (ha : FA g X Z [e, e2] fs) (hg : Gl X "zip" := by rfl) (hm : X.mg "zip" = none := by assumption) (hK : g.K = X.K := by rfl) (hs : starEach [e, e2] X.env = (false, eval e X.env) :: starEach [e2] X.env := by rfl) (hpl : (backTo pos (starEach [e2] X.env)).any (·.1) = false := by rfl) :
    FI g X Z (.Tuple elts kk tpos) (.Call (.Name "zip" p) [e, e2] [] pos) (zipI fs) := pi_imp (RZ.pi_zipA hg hm ha hs hpl) fun σ H Q h => by rw [← hK]; exact zipI_use h
/-- where an error is handled: two lists -/
def zipLI (fs : Av) : Iv := bindA fs fun ws ρ => match grabs ws ρ with
  | some ([.lst l, .lst m], ρ') => .ok (List.zipWith (fun a b => .tup [a, b]) l m) ρ'
  | _ => .bad
theorem zipLI_use {Q : It → Hp → Prop} (h : tI g Z (zipLI fs) σ H Q) : iZip g.K (tA g Z fs) σ H Q := by
  obtain ⟨C, F, ρ, R, P⟩ := h
  refine postA_bind R P fun F1 H1 ρ1 ws vs s1 R1 rs n P1 => ?_
  split at P1
  · rename_i l m ρ2 e2
    obtain ⟨F2, v, w, s2, R2, rfl, r1, r2⟩ := two_get R1 rs n e2
    cases r1 with | lst h1 q1 =>
    cases r2 with | lst h2 q2 =>
    exact ⟨_, _, _, _, rfl, R2.sub.seq (.inl (.inl h1)), R2.sub.seq (.inl (.inl h2)), P1 F2 H1 s2 R2 _ (jok_zip (.inl (.inl h1)) (.inl (.inl h2)) q1 q2)⟩
  · exact P1.elim
def FIh (g : G) (X : Cx) (Z : WX) (tg iter : Expr) (f : Iv) : Prop := PiH X tg iter (tI g Z f)
theorem fih_zip (ha : FA g X Z [e, e2] fs) (hg : Gl X "zip" := by rfl) (hm : X.mg "zip" = none := by assumption) (hK : g.K = X.K := by rfl) (hs : starEach [e, e2] X.env = (false, eval e X.env) :: starEach [e2] X.env := by rfl) (hpl : (backTo pos (starEach [e2] X.env)).any (·.1) = false := by rfl) :
    FIh g X Z (.Tuple elts kk tpos) (.Call (.Name "zip" p) [e, e2] [] pos) (zipLI fs) := fun pins s σ H R I h => piH_zip hg hm ha hs hpl pins s σ H R I (by rw [← hK]; exact zipLI_use h)
theorem fg_tupH {s : Shared} {H : Hp} {ch : List Addr} {scope : Scope} {ce : Env} {es : List Expr} {k n : Nat} {is : List Nat} {ts : List Gv} (hb : HotB X s H ch) (h : FGs g (X.blk s H scope ce ch) es is ts) (hK : g.K = X.K := by rfl) (hl : ts.length = n := by rfl) (hn : (assignEach es ce).length = n := by rfl) (hst : (assignEach es ce).findIdx? (·.1) = none := by rfl) :
    FG g (X.blk s H scope ce ch) (.Tuple es k pos) is (gT ts) := fg_tupOf (X := X.blk s H scope ce ch) (fun h => pg_tupH hb h hn hst) h hK hl
variable {fi : Iv} {gt : Gv} {is : List Nat} {ct : Tv} {el : Ev} {elt tg iter : Expr} {ifs : List Expr} {scope : Scope} {own : List (Str × Nat)}
theorem fe_lcH (hot : L2H.HotC X) (hN : X.N.Nodup) (hi : FIh g X Z tg iter fi) (ok : BlkOk X.N X.env.scope scope own) (hg : ∀ (s : Shared) (H : Hp) (C : Addr) (cl : List (Str × Addr)) (fp : List Addr), HotB X s H fp → FG g (X.blk s H scope (compEnvC scope cl C X.env) fp) tg is gt)
    (ht : ∀ (s : Shared) (H : Hp) (C : Addr) (cl : List (Str × Addr)) (fp : List Addr), PTs (X.blk s H scope (compEnvC scope cl C X.env) fp) ifs (tT g Z0 ct)) (he : ∀ (s : Shared) (H : Hp) (C : Addr) (cl : List (Str × Addr)) (fp : List Addr), FE g (X.blk s H scope (compEnvC scope cl C X.env) fp) Z0 elt el)
    (his : ∀ j ∈ is, j ∈ own.map (·.2) := by decide) (hs : ∀ x, foldedSetIterable iter X.env x = pure x := by intro _; rfl) : FE g X Z (.ListComp elt [⟨tg, iter, ifs, 0⟩] scope pos) (lcE fi gt ct el (own.map (·.2))) :=
  pe_imp (pe_lcH hot hN hi ok hg ht he hs) fun σ H Q h => lc_use his h
end

/-! ### isinstance of a handled error -/
/-- e is the error at a of the class n: what of the class m -/
def isXE (a : Addr) (n : Str) (sub : Bool) (i : Nat) : Ev := fun ρ => match ρ[i]? with
  | some (.val (.exc n' a')) => if n' = n ∧ a' = a then .ok (.val (.bl sub)) ρ else .bad
  | _ => .bad
theorem call_isP {X : Cx} {a A0 : Addr} {oe : Obj} (C : ExcC X.K A0) (hp : (a, oe) ∈ X.pn) (hz : Zc (.ref A0) none oe) (hf : ∃ vs, oe.data = .fields vs) : CallR X (.builtin "isinstance") (rIsE X.K A0 a) := fun {pins s σ H xs us Q} I r h => by
  obtain ⟨c, cv, b, rfl, hcv, e, q⟩ := h
  cases r with | cons ra r =>
  cases r with | cons rb r =>
  cases r; cases ra
  cases hcv _ rb
  obtain ⟨vs, hv⟩ := hf
  have at_ := (I.pin (a, oe) (List.mem_append_left _ hp)).1
  have J : PySem.W.InstAt s.heap a oe A0 none := by
    rcases oe with ⟨c1, c2, c3, c4⟩
    obtain ⟨z1, z2⟩ := hz
    cases z1; cases z2; cases hv
    exact ⟨at_, rfl, rfl, trivial⟩
  exact PySem.W.kia_one (PySem.W.handS_kitx_exc C.hg C.hk C.hs C.hd C.ha C.hn C.ht C.hm) I.kIn J e (fun z => nomatch z) fun tk => ⟨.bl b, H, I.kept (t' := tk) fun _ _ z => z, rfl, q⟩
end FX
namespace FX
open PySem PySem.Spec PyProof.Rows L2
open L2H (RoomH Hot1 PinOk HotC cxH)

/-- an own error's class, and what isinstance and except ask of it -/
structure ExG (g : G) (x : Str) (C : Addr) : Prop extends ExK g x C where
  isx : ExcC g.K C
/-- p's object is an error of the class n -/
structure HotOk (g : G) (p : Addr × Obj) (n : Str) : Prop where
  ex : ∃ C, ExG g n C ∧ Zc (.ref C) none p.2
  fl : ∃ vs, p.2.data = .fields vs
section
variable {g : G} {X : Cx} {Z : WX} {p pos : Pos}
/-- isinstance(e, y): y an own class, or a built-in one -/
theorem fe_isX {n x y : Str} {q : Addr × Obj} {b : Bool} {p1 p2 : Pos} (i : Nat) (hq : q ∈ X.pn) (ho : HotOk g q n) (hm : X.mg "isinstance" = none) (hy : ∀ C, g.mg n = some (.ref C) → ∃ Y, g.mg y = some (.ref Y) ∧ PySem.W.kitOne g.K (.ref C) (.ref Y) = some b) (hN : X.N[i]? = some x := by rfl)
    (hv : Vis X.env.scope x := by first | exact Or.inl rfl | exact Or.inr (Or.inl rfl) | exact Or.inr (Or.inr rfl)) (hK : g.K = X.K := by rfl) (hM : X.mg = g.mg := by rfl) (hg : Gl X "isinstance" := by rfl) (hgy : Gl X y := by rfl) (hd : (x == ("__debug__" : Str)) = false := by decide) (hcd : (x == ("__classdict__" : Str)) = false := by decide) (hdy : (y == ("__debug__" : Str)) = false := by decide)
    (he : starEach [.Name x p1, .Name y p2] X.env = (false, eval (.Name x p1) X.env) :: starEach [.Name y p2] X.env := by rfl) (he2 : starEach [.Name y p2] X.env = (false, eval (.Name y p2) X.env) :: starEach [] X.env := by rfl) (hpl : (backTo pos (starEach [.Name y p2] X.env)).any (·.1) = false := by rfl) :
    FE g X Z (.Call (.Name "isinstance" p) [.Name x p1, .Name y p2] [] pos) (isXE q.1 n b i) := by
  obtain ⟨C, hC, hz⟩ := ho.ex
  obtain ⟨Y, hY, hk⟩ := hy C hC.gl
  have hT : PE X (.Name y p2) (tC (.ref Y)) := pe_glob hgy (by rw [hM]; exact hY) rfl hdy
  refine pe_imp (pe_callB (call_isP (oe := q.2) (by rw [← hK]; exact hC.isx) hq hz ho.fl) hg hm (by first | rfl | decide +kernel) (pa_cons (pe_var hN hv hd hcd) (pa_cons hT pa_nil he2) he) (by decide) (by decide) he hpl) fun σ H Q ⟨C', F, ρ, R, P⟩ => ?_
  unfold isXE at P
  split at P
  · rename_i n' a' e
    obtain ⟨v, h1, h2⟩ := R.val _ _ e
    split at P
    · rename_i hc
      obtain ⟨rfl, rfl⟩ := hc
      cases h2
      exact ⟨.ref q.1, h1, .ref Y, .ref Y, b, rfl, fun u r => r, by rw [← hK]; exact hk, P F H (Same.refl F) R _ (.bl b)⟩
    · exact P.elim
  · exact P.elim
theorem fe_isXb {n x y : Str} {q : Addr × Obj} {b : Bool} {T : String} {p1 p2 : Pos} (i : Nat) (hq : q ∈ X.pn) (ho : HotOk g q n) (hm : X.mg "isinstance" = none) (hmy : X.mg y = none) (hy : ∀ C, g.mg n = some (.ref C) → PySem.W.kitOne g.K (.ref C) (.type T) = some b) (hvT : bootBuiltins y = some (.type T) := by first | rfl | decide +kernel) (hN : X.N[i]? = some x := by rfl)
    (hv : Vis X.env.scope x := by first | exact Or.inl rfl | exact Or.inr (Or.inl rfl) | exact Or.inr (Or.inr rfl)) (hK : g.K = X.K := by rfl) (hg : Gl X "isinstance" := by rfl) (hgy : Gl X y := by rfl) (hd : (x == ("__debug__" : Str)) = false := by decide) (hcd : (x == ("__classdict__" : Str)) = false := by decide) (hny : y ≠ "__name__" := by decide) (hdy : (y == ("__debug__" : Str)) = false := by decide)
    (he : starEach [.Name x p1, .Name y p2] X.env = (false, eval (.Name x p1) X.env) :: starEach [.Name y p2] X.env := by rfl) (he2 : starEach [.Name y p2] X.env = (false, eval (.Name y p2) X.env) :: starEach [] X.env := by rfl) (hpl : (backTo pos (starEach [.Name y p2] X.env)).any (·.1) = false := by rfl) :
    FE g X Z (.Call (.Name "isinstance" p) [.Name x p1, .Name y p2] [] pos) (isXE q.1 n b i) := by
  obtain ⟨C, hC, hz⟩ := ho.ex
  have hT : PE X (.Name y p2) (tC (.ty T)) := pe_bltn hgy hmy hvT rfl hny hdy
  refine pe_imp (pe_callB (call_isP (oe := q.2) (by rw [← hK]; exact hC.isx) hq hz ho.fl) hg hm (by first | rfl | decide +kernel) (pa_cons (pe_var hN hv hd hcd) (pa_cons hT pa_nil he2) he) (by decide) (by decide) he hpl) fun σ H Q ⟨C', F, ρ, R, P⟩ => ?_
  unfold isXE at P
  split at P
  · rename_i n' a' e
    obtain ⟨v, h1, h2⟩ := R.val _ _ e
    split at P
    · rename_i hc
      obtain ⟨rfl, rfl⟩ := hc
      cases h2
      exact ⟨.ref q.1, h1, .ty T, .type T, b, rfl, fun u r => r, by rw [← hK]; exact hy C hC.gl, P F H (Same.refl F) R _ (.bl b)⟩
    · exact P.elim
  · exact P.elim
end

/-! ### a def that is called with the handled error -/
structure FnX (g : G) (P : Program) (w : World) (base : Heap) (k : Nat) (x : Str) (m : Str → Addr → Ev) : Prop where
  ex : ∃ (f : Addr) (fd : FuncData) (y : Str), g.mg x = some (.ref f) ∧ PySem.W.keepIn g.K (.ref f) = true ∧ Binds g.K fd [y] [] ∧
    ∀ {A : Around} {outer : List Env} {s : Shared} {H : Hp} {args : Args} {u : Value} {v : V} {Q : VK} {E : XK} {p : Addr × Obj} {n : Str}, RoomH k A → Hot1 A p → PinOk outer H s p → HotOk g p n → Env0 P w g.K g.mg base A outer s H → BindsTo s fd args [(y, u)] → RelV v u → spF g 1 (m n p.1) [v] H Q E →
      codeAny (model P w) A (.call (.ref f) args) (CR (L2N.CX P w) outer P w H s Q E) s
section
variable {g : G} {P : Program} {w : World} {base : Heap} {N : List Str} {y : Str} {k nl : Nat} {sv : Str → Addr → Sv}
theorem fnX_mk {x : Str} {d : He.DefD} {fd : FuncData} (F : FunD g.K d.name d.qual d.params d.body d.scope [] [] (He.fAd g.K d.at_) fd) (hm : g.mg x = some (.ref (He.fAd g.K d.at_))) (S : FnScope N [y] d.scope) (hb : Binds g.K fd [y] []) (hN : N.length = 1 + nl)
    (body : ∀ (cdv : Value) (A : Around) (outer : List Env) (s : Shared) (H : Hp) (E : XK) (p : Addr × Obj) (n : Str), HotOk g p n → HotC (cxH (L2N.CX P w) P w g.K g.mg base N d.qual d.scope (He.fAd g.K d.at_) cdv A outer s H E p) →
      FSs g (cxH (L2N.CX P w) P w g.K g.mg base N d.qual d.scope (He.fAd g.K d.at_) cdv A outer s H E p) (ZE E) d.body (sv n p.1)) :
    FnX g P w base (k + 1) x (fun n a => runD 1 nl (sv n a)) := by
  refine ⟨_, fd, y, hm, F.kp, hb, ?_⟩
  obtain ⟨oc, od, dV, kV, doc, pm, an, cdv, ct, osl, rfl, lk, hcd, _, _⟩ := F.ex
  intro A outer s H args u v Q E p n hr hot hpin ho e0 hb r ⟨hl, C, F1, cs, hA, R, PP⟩
  have KX : g.K.In s.heap := e0.mod.kin.keeps fun b o e => (e0.bs b o e).1
  have lim : s.heap.NoLimit := e0.mod.nolimit.keeps fun b o e => (e0.bs b o e).1
  refine codeAny_call_function hr.depth (KX _ _ lk) rfl S.co S.gen rfl (PySem.W.codeRec_of KX hcd) (hb _ _ _ _ (wpAny_newFunctionEnv_cells S.kind (fun q hq => ?_) fun env he s1 x1 => ?_))
  · rw [List.mem_singleton.mp hq]
    exact (S.par y (by simp)).imp id fun z => ⟨z, PySem.W.cellsFrom_some _ _ _ (.inl z)⟩
  · subst he
    refine ⟨lim.keeps x1.toInCall.keep, codeAny_func ?_⟩
    have I := L2H.inv_startH (CX := L2N.CX P w) (P := P) (w := w) (K := g.K) (mg := g.mg) (base := base) (us := [u]) (vs := [v]) (E := E) S hpin e0 rfl (.cons r .nil) x1
    refine wpAny_mono ((body cdv A outer s H E p n ho ⟨p, hot, List.mem_singleton.mpr rfl⟩).run [] s1 (L2.start N [v]) H _ I (runD_use (nl := nl) hA R hN PP)) (fun fl s' hs => ?_) fun e s' hs => hs
    have fin : ∀ {σ' : St} {H' : Hp} {x : V} {u' : Value}, Inv (cxH (L2N.CX P w) P w g.K g.mg base N d.qual d.scope (He.fAd g.K d.at_) cdv A outer s H E p) [] σ' H' s' → RelV x u' → Q x H' → CE outer P w H s Q u' s' := fun J rv q => ⟨_, _, J.os, J.bare, J.base, J.hok, rv, q⟩
    cases fl with
    | ret u' => exact hs.elim fun x ⟨σ', H', J, rv, q⟩ => fin J rv q
    | next => exact hs.elim fun σ' ⟨H', J, q⟩ => fin (x := V.non) J rfl q
    | brk => exact hs.elim fun σ' ⟨H', J, q⟩ => q.elim
    | cont => exact hs.elim fun σ' ⟨H', J, q⟩ => q.elim
theorem takesZ0 {X : Cx} : L2N.Takes X Z0 := fun _ _ ⟨_, _, _, _, _, _, _, _, _, _, _, _, _, _, _, _, z⟩ => z.elim
/-- x(e), in the suite that holds the error -/
theorem fe_callX {X : Cx} {x : Str} {m : Str → Addr → Ev} {q : Addr × Obj} {n : Str} {e : Expr} {fa : Ev} {p pos : Pos} (h : FnX g P w base k x m) (hr : RoomH k X.A) (hq : q ∈ X.pn) (hot : Hot1 X.A q) (ho : HotOk g q n) (ha : FA g X Z0 [e] (consA fa nilA)) (hg : Gl X x := by rfl) (hP : X.prog = P := by rfl) (hw : X.w = w := by rfl) (hb : X.base = base := by rfl)
    (hK : X.K = g.K := by rfl) (hM : X.mg = g.mg := by rfl) (hdb : (x == ("__debug__" : Str)) = false := by decide) (he : starEach [e] X.env = (false, eval e X.env) :: starEach [] X.env := by rfl) (hpl : (backTo pos (starEach [] X.env)).any (·.1) = false := by rfl) :
    FE g X Z0 (.Call (.Name x p) [e] [] pos) (callF (m n q.1) (consA fa nilA)) := by
  obtain ⟨f, fd, y, h1, h2, h3, h4⟩ := h.ex
  subst hP hw hb
  rw [← hM] at h1
  rw [← hK] at h2 h3
  refine ⟨fun pins s σ H Q I hQ => ?_⟩
  refine wpAny_Call_Name_kw (ld_glob I hg h1 (PySem.W.callWith_K (h₀ := X.base) I.ok.mod.kin h2 (thn (ha.run pos pins s σ H _ I (callF_use (np := 1) (ALen.len) hQ)) fun us s1 ⟨vs, H1, I1, rs, sp⟩ => ⟨I1.kIn, ?_⟩) he hpl) hdb)
  have hl := sp.1
  cases rs with
  | nil => cases hl
  | cons r1 rs =>
    cases rs with
    | cons _ _ => cases hl
    | nil =>
      rename_i v0 u0 xx
      have b := h3 s1 [u0] I1.kIn rfl
      have P1 := I1.pin q (List.mem_append_left _ hq)
      have hpin : PinOk X.stack H1 s1 q := ⟨P1.1, P1.2.1, fun hm => (List.mem_cons.mp (I1.stkSub q.1 hm)).elim P1.2.2.1 P1.2.2.2.1, P1.2.2.2.2⟩
      have e0 := I1.env0
      rw [hK, hM] at e0
      refine wpAny_call (codeAny_mono (h4 hr hot hpin ho e0 b r1 sp) fun r s' hq => ?_)
      cases r with
      | error e => exact (L2N.passAt (X := X) takesZ0 σ pins H1 s1 e s' I1 hq)
      | ok fl =>
        cases fl with
        | ret u => exact I1.after hq
        | next => exact False.elim hq
        | brk => exact False.elim hq
        | cont => exact False.elim hq
end
end FX
namespace FX
open PySem PySem.Spec PyProof.Rows L2
open L2N (Zn)

/-! ### several clauses 'except x as n' -/
abbrev HTs := List (Value × (Addr → Value → Option Addr → TS))
def wAsM (K : PySem.W.Frag) (i : Nat) (Wout : WX) (D : Ends) : HTs → WX
  | [] => Wout
  | (c, ts) :: r => wAs K c i ts (wAsM K i Wout D r) D
inductive AsOk (X : Cx) (n : Str) : List ExceptHandler → HTs → Prop
  | nil : AsOk X n [] []
  | cons {x : Str} {c : Value} {ts : Addr → Value → Option Addr → TS} {b : Stmt} {suite : List Stmt} {p1 p2 : Pos} {hds : List ExceptHandler} {l : HTs} (hc : Names X x c)
      (hs : ∀ (a : Addr) (oe : Obj) (cls : Value) (d : Option Addr) (pn : List (Addr × Obj)), Zn cls d oe → (∃ vs, oe.data = .fields vs) → PSs (X.suite a ((a, oe) :: pn)) (b :: suite) (ts a cls d)) (r : AsOk X n hds l) :
      AsOk X n (.ExceptHandler (some (.Name x p1)) (some n) (b :: suite) p2 :: hds) ((c, ts) :: l)
section
variable {X : Cx} {n : Str} {i : Nat} {body : List Stmt} {hd : ExceptHandler} {hds : List ExceptHandler} {l : HTs} {pos : Pos} {tb : WX → TS} {Wout : WX}
theorem ps_tryA (hs : X.stack = X.env :: X.outer) (hf : X.env.frame = some X.env.locals) (hN : X.N.Nodup) (hi : X.N[i]? = some n) (hln : X.env.kindOf n = some .local) (tk : L2N.Takes X Wout)
    (hb : ∀ (W : WX) (pn : List (Addr × Obj)) (xe : Value → Shared → Prop), L2N.Takes (X.tr pn xe) W → PSs (X.tr pn xe) body (tb W)) (hh : AsOk X n (hd :: hds) l) :
    PS X (.Try body (hd :: hds) [] [] pos) (fun D σ H => tb (wAsM X.K i Wout D l) D σ H) := ⟨fun pins s σ H D I h => by
  have ok := I.ok
  have fr : X.A.frames = some (X.env :: X.outer) := by rw [ok.frames, hs]
  have loc : Loc X.env.scope n := .inl hln
  refine wpAny_Try_except (wpAny_mono ((hb (wAsM X.K i Wout D l) (X.pn ++ pins) (fun e sa => wpAny (model X.prog X.w) X.A (noteFrame e X.env) (fun _ sb => wpAny (model X.prog X.w) X.A (setFlight e none) (fun _ sc =>
    wpAny (model X.prog X.w) X.A (handleBy e X.env (hd :: hds)) (SP X pins D) X.xe sc) X.xe sb) X.xe sa) (fun u s' xx => ?_)).run [] s σ H D (I.toTry _) h) (fun f s1 hsp => ?_) (fun e s1 he => he))
  · obtain ⟨a, B, sI, pins', σ', H', cls, d, rfl, J', nb, up, sky, na, os, ag, wish⟩ := xx
    have J : Inv X pins σ' H' sI := J'.ofTry ok
    have sky' : Sky B (X.env :: X.outer) a (Zn cls d) X.env.locals s'.heap := by rw [← hs]; exact sky
    show wpAny (model X.prog X.w) X.A (noteFrame (.ref a) X.env) _ _ _
    refine L2N.Sky.land Zn.steady fr hf sky' fun hA flA upA => ?_
    have JA : Inv X pins σ' H' { s' with heap := hA } := J.landed nb flA.1 (up.trans upA) os ag
    obtain ⟨oA, vA, gA, zA, dA⟩ := flA.there
    have nfr : a ∉ frs (X.env :: X.outer) := fun hm => by
      obtain ⟨_, o', e', hnf⟩ := flA.2.2.1.mem hm
      rw [gA] at e'; cases e'
      exact hnf _ dA
    have nL : a ≠ X.env.locals := fun z => nfr (List.mem_filterMap.mpr ⟨X.env, List.mem_cons_self, hf.trans (congrArg some z.symm)⟩)
    have nF : a ∉ X.fs := fun hm => (List.mem_filterMap.mp hm).elim fun e ⟨he, q⟩ => nfr (List.mem_filterMap.mpr ⟨e, List.mem_cons_of_mem _ he, q⟩)
    have SA := JA.suite gA dA na nL nF
    have try_ : ∀ {hs' : List ExceptHandler} {l' : HTs}, AsOk X n hs' l' → wAsM X.K i Wout D l' cls d σ' H' → wpAny (model X.prog X.w) X.A (handleBy (.ref a) X.env hs') (SP X pins D) X.xe { s' with heap := hA } := by
      intro hs' l' hk
      induction hk with
      | nil =>
        intro w
        obtain ⟨_, _, _, oe, vs, T, oT, ts', he, hz, hd, h1, hr⟩ := id flA
        refine wpAny_handleBy_nil ?_
        unfold PySem.passOn
        refine wpAny_bind (wpAny_field he hd h1 ?_)
        rw [if_neg (by simp : ¬ (Value.ref T == .none) = true)]
        have out : wpAny (model X.prog X.w) X.A (setFlight (.ref a) X.env.frame) (fun _ sd => wpAny (model X.prog X.w) X.A (throw (.ref a) : Sem Flow) (SP X pins D) X.xe sd) X.xe { s' with heap := hA } := by
          rw [hf]
          exact HandSPX.setFlight_upZ flA fun hB heldB upB => wpAny_throw (tk _ _ ⟨a, B, sI, pins, σ', H', cls, d, rfl, J, nb, (up.trans upA).trans upB, .inr (.inr (by rw [hs]; exact heldB)), na, os, ag, w⟩)
        first | exact wpAny_bind (wpAny_pure (wpAny_bind out)) | exact wpAny_bind out
      | @cons x c ts b suite p1 p2 hds2 l2 hc hsu r ih =>
        intro ⟨ans, hans, yes, no⟩
        refine wpAny_handleBy_cons (codeAny_handlers_test ?_) nofun
        have LT : PySem.W.Looks (model X.prog X.w) hA (typeOf (.ref a)) cls := fun A Q E s k q => wpAny_typeOf_ref (k _ _ gA) (zA.1.symm ▸ q)
        have test : ∀ {Q E : Value → Shared → Prop}, Q c { s' with heap := hA } → wpAny (model X.prog X.w) (X.A.mark (some (.ref a))) (eval (.Name x p1) X.env) Q E { s' with heap := hA } := fun {Q E} q => by
          obtain ⟨y1, y2, y3 | ⟨y3, y4, y5⟩⟩ := hc
          · exact ld_glob (X := X.suite a ((a, oA) :: (X.pn ++ pins))) SA y1 y3 q y2
          · exact ld_blt (X := X.suite a ((a, oA) :: (X.pn ++ pins))) SA y1 y3 y4 q y5 y2
        refine test ((PySem.W.exm_one (M := model X.prog X.w) JA.kIn LT hans).here ?_)
        cases ans with
        | false => exact (show wpAny _ X.A (handleBy (.ref a) X.env hds2) _ _ _ from ih (no rfl))
        | true =>
          refine codeAny_handlers_suite_as (HandSPX.lands_againZ flA fun hB flB upB => ?_)
          have JB : Inv X pins σ' H' { s' with heap := hB } := J.landed nb flB.1 ((up.trans upA).trans upB) os ag
          obtain ⟨oB, vB, gB, zB, dB⟩ := flB.there
          refine store_ok (X := X.suite a ((a, oB) :: (X.pn ++ pins))) (v := .ref a) (JB.suite gB dB na nL nF) hN hi loc rfl (fun sC SC => ?_) (.inr hln)
          refine wpAny_mono ((hsu a oB cls d (X.pn ++ pins) zB ⟨_, dB⟩).run [] sC _ H' _ SC (yes rfl a na)) (fun f sD hsp => ?_) (fun _ _ z => z.elim)
          have out : ∀ {σ6 : St} {H6 : Hp} {Q : Shared → Prop}, Inv (X.suite a ((a, oB) :: (X.pn ++ pins))) [] σ6 H6 sD → (∀ s7, Inv X pins (σ6.set i none) H6 s7 → Q s7) → wpAny (model X.prog X.w) X.A (do bindName X.env n .none; unbindBehindTheSuite X.env n p2) (fun _ s7 => Q s7) X.xe sD :=
            fun S6 hq => gone_ok (S6.unsuite ok) hN hi hln hq
          cases f with
          | next => exact hsp.elim fun σ6 ⟨H6, S6, q6⟩ => out S6 fun s7 J7 => ⟨_, _, J7, q6⟩
          | brk => exact hsp.elim fun σ6 ⟨H6, S6, q6⟩ => out S6 fun s7 J7 => ⟨_, _, J7, q6⟩
          | cont => exact hsp.elim fun σ6 ⟨H6, S6, q6⟩ => out S6 fun s7 J7 => ⟨_, _, J7, q6⟩
          | ret u => exact hsp.elim fun v6 ⟨σ6, H6, S6, r6, q6⟩ => out S6 fun s7 J7 => ⟨_, _, _, J7, r6, q6⟩
    exact try_ hh wish
  · cases f with
    | next => exact hsp.elim fun σ' ⟨H', J', q⟩ => wpAny_execs_nil ⟨σ', H', J'.ofTry ok, q⟩
    | brk => exact hsp.elim fun σ' ⟨H', J', q⟩ => ⟨σ', H', J'.ofTry ok, q⟩
    | cont => exact hsp.elim fun σ' ⟨H', J', q⟩ => ⟨σ', H', J'.ofTry ok, q⟩
    | ret u => exact hsp.elim fun v ⟨σ', H', J', r, q⟩ => ⟨v, σ', H', J'.ofTry ok, r, q⟩⟩
end
end FX
namespace FX
open PySem PySem.Spec PyProof.Rows L2
open LamX (LamS lamEnv lamCx CodeO Tabs TabS ExtN tLam TabB)

/-! ### x(lambda: e) -/
/-- the lambda's body's context, errors with no context of their own -/
def lamN (X : Cx) (A : Around) (outer : List Env) (s : Shared) (H : Hp) (E : XK) (scope : Scope) (f c' : Addr) : Cx := (lamCx X A outer s H E scope f c').tr [] fun e s' =>
  wpAny (model X.prog X.w) (A.deeper (lamEnv X scope s.heap.objs.size f c')) (leaving (lamEnv X scope s.heap.objs.size f c') e) (fun _ t => L2N.CX X.prog X.w outer H s E e t) (fun e' t => L2N.CX X.prog X.w outer H s E e' t) s'
theorem lamN_takes {X : Cx} {A : Around} {outer : List Env} {s : Shared} {H : Hp} {E : XK} {scope : Scope} {f c' : Addr} : L2N.Takes (lamN X A outer s H E scope f c') (fun cls d _ H => E cls d H) := L2N.takes_of rfl rfl rfl rfl
/-- the context of the def that was handed it -/
abbrev cxL (X : Cx) (N : List Str) (q : Str) (sc : Scope) (g : Addr) (cd : Value) (s : Shared) (H : Hp) : Cx := cxOf C8.CX0 X.prog X.w X.K X.mg X.base N q sc g cd X.A X.stack s H C8.E0
section
variable {X : Cx} {pins : List (Addr × Obj)} {σ : St} {H : Hp} {s : Shared}
theorem lam_act {N : List Str} {q : Str} {sc : Scope} {g f c' : Addr} {cd pm ctv : Value} {params : Arguments} {body : Expr} {scope : Scope} {k i : Nat} {a : Str} {pn : List (Addr × Obj)} {xe : Value → Shared → Prop} {W : WX} {E : XK} {tb : TE} {p1 p2 : Pos}
    (I : Inv X pins σ H s) (L : LamS X.env.scope scope) (hf : s.heap.get? f = some (PySem.W.kla_obj "<lambda>" (X.env.qual ++ "<lambda>") params body scope (cloFrom X.env.cells scope.names []) pm c' ctv)) (nf : H f = none) (ff : f ∉ frs X.stack)
    (hbind : bindArgs (PySem.W.kla_fn "<lambda>" (X.env.qual ++ "<lambda>") params body scope (cloFrom X.env.cells scope.names []) pm (.ref c') ctv) ⟨[], []⟩ = pure []) (tk : L2N.Takes ((cxL X N q sc g cd s H).tr pn xe) W)
    (hr : Room (k + 1) (X.A.deeper (envOfC q sc s.heap.objs.size g cd))) (hbody : ∀ (A : Around) (outer : List Env) (s : Shared) (H : Hp), Room k (A.deeper (lamEnv X scope s.heap.objs.size f c')) → PE (lamN X A outer s H E scope f c') body tb)
    (hN : N[i]? = some a) (hv : Vis sc a) (hd : (a == ("__debug__" : Str)) = false := by decide) (hcd : (a == ("__classdict__" : Str)) = false := by decide) :
    PE ((cxL X N q sc g cd s H).tr pn xe) (.Call (.Name a p1) [] [] p2) (fun τ T Q => τ[i]? = some (some (.ref f)) ∧ T c' = some (CodeO c' (X.env.qual ++ "<lambda>")) ∧ (∀ cls d H', E cls d H' → W cls d τ H') ∧ tb σ T Q) := ⟨fun pinsZ sZ τ T Q IZ ⟨h1, h2, hW, h3⟩ => by
  refine wpAny_Call_Name_kw (thn ((pe_var (pos := p1) (i := i) hN hv hd hcd).run pinsZ sZ τ T (fun v H1 => v = .ref f ∧ H1 = T) IZ ⟨.ref f, h1, rfl, rfl⟩) fun u t ⟨v, H1, J, r1, ev, eH⟩ => ?_)
  cases ev; cases eH; cases r1
  have of_ := J.base.keep f _ hf nf ff (fun z => nomatch (show f ∈ ([] : List Addr) from z))
  obtain ⟨⟨oc, vs, tk1, gc, dc, vc⟩, _, _⟩ := J.hok c' _ h2
  have here : codeAny (model X.prog X.w) (X.A.deeper (envOfC q sc s.heap.objs.size g cd)) (.call (.ref f) ⟨[], []⟩) (CR (L2N.CX X.prog X.w) (envOfC q sc s.heap.objs.size g cd :: X.stack) X.prog X.w T t Q E) t := by
    refine PySem.W.kla_callFunE hr.depth of_ rfl L.co L.gen rfl ⟨c', oc, vs, tk1, rfl, gc, dc, vc⟩ ?_
    rw [hbind]
    refine wpAny_pure (wpAny_newFunctionEnv (fun y hy => (L.own y hy).2) (fun y hy => nomatch hy) (fun h1 ns sb => ⟨J.nolimit.fresh _ sb, (?_ : codeAny _ _ (.expr body (lamEnv X scope t.heap.objs.size f c')) _ _)⟩) L.kind)
    have kp : ∀ b o, t.heap.get? b = some o → h1.get? b = some o := fun b o e => sb.extBut b o (Nat.ne_of_lt (Heap.lt_size e)) (Heap.get?_push_of_some _ e)
    have M := LamX.lam_start2 (E := E) (c' := c') (f := f) (scope := scope) (A := X.A.deeper (envOfC q sc s.heap.objs.size g cd)) (outer := envOfC q sc s.heap.objs.size g cd :: X.stack) (tk := t.toks + ([] : List (Str × Value)).length) I L J.env0 hr.hd J.base ns kp
    exact PySem.W.kla_codeExpr (wpAny_mono ((hbody _ _ t T (hr.deeper _)).run [] _ _ T Q (M.toTry _) h3) (fun v s' ⟨x, H', M', rv, qv⟩ => ⟨x, H', M'.os, M'.bare, M'.base, M'.hok, rv, qv⟩) fun e s' hq => hq)
  refine PySem.W.callWith_F0 ⟨_, _, _, _, of_⟩ (wpAny_call (codeAny_mono here fun r s' hq => ?_))
  · cases r with
    | error e => exact tk e s' (L2N.XE.of_call J hW hq)
    | ok fl =>
      cases fl with
      | ret u => exact J.after hq
      | next => exact hq.elim
      | brk => exact hq.elim
      | cont => exact hq.elim⟩
/-- what the def makes of the lambda's reading -/
def GivesN (X : Cx) (k : Nat) (N : List Str) (x : Str) (sc : Scope) (g : Addr) (cd : Value) (bg : List Stmt) (a : Str) (q : Str) (TT : (XK → Hp → VK → Prop) → Hp → VK → Prop) : Prop :=
  ∀ (f c' : Addr) (s : Shared) (H : Hp) (Q : VK) (tl : XK → Hp → VK → Prop), Room (k + 1) (X.A.deeper (envOfC x sc s.heap.objs.size g cd)) →
    (∀ (W : WX) (pn : List (Addr × Obj)) (xe : Value → Shared → Prop) (E : XK) (p1 p2 : Pos), L2N.Takes ((cxL X N x sc g cd s H).tr pn xe) W →
      PE ((cxL X N x sc g cd s H).tr pn xe) (.Call (.Name a p1) [] [] p2) (fun τ T Q => τ[0]? = some (some (.ref f)) ∧ T c' = some (CodeO c' q) ∧ (∀ cls d H', E cls d H' → W cls d τ H') ∧ tl E T Q)) →
    H c' = some (CodeO c' q) → TT tl H Q → ∃ t, PSs (cxL X N x sc g cd s H).nox bg t ∧ t { nx := fun _ H' => Q .non H', rt := Q } (L2.start N [.ref f]) H
theorem lam_call {T : List (Addr × Str)} {TT : (XK → Hp → VK → Prop) → Hp → VK → Prop} {x a : Str} {g c P : Addr} {k : Nat} {pg : Arguments} {bg : List Stmt} {sc : Scope} {dV kV doc pm cdv ct oc : Value} {an od : Option Addr} {osl : Array (Option Value)} {N : List Str} {params : Arguments} {body : Expr} {scope : Scope} {t : XK → TE} {p lpos pos : Pos}
    (hg : Gl X x) (hm : X.mg x = some (.ref g)) (hk : PySem.W.keepIn X.K (.ref g) = true) (lk : X.K.lookup g = some ⟨oc, od, .func (PySem.W.fnOf x x pg bg sc dV kV doc pm an cdv ct), osl⟩) (hcg : PySem.W.codeIn X.K cdv x = true) (hb : L2.Binds X.K (PySem.W.fnOf x x pg bg sc dV kV doc pm an cdv ct) [a] [])
    (S : FnScope N [a] sc) (hN0 : N[0]? = some a) (hva : Vis sc a) (hG : GivesN X k N x sc g cdv bg a (X.env.qual ++ "<lambda>") TT) (TB : TabB X.base X.mg c P) (hcode : X.env.code = .ref c) (hmT : (P, X.env.qual ++ "<lambda>") ∈ T) (hu : ∀ p ∈ T, p.1 = P → p.2 = X.env.qual ++ "<lambda>")
    (hr : Room (k + 2) X.A) (L : LamS X.env.scope scope) (hdef : defaultsOf params X.env = ([], [])) (hbind : ∀ (q : Str) (cl : List (Str × Addr)) (pm cv ctv : Value), bindArgs (PySem.W.kla_fn "<lambda>" q params body scope cl pm cv ctv) ⟨[], []⟩ = pure [])
    (hbody : ∀ (A : Around) (outer : List Env) (s : Shared) (H : Hp) (E : XK) (f c' : Addr), Room k (A.deeper (lamEnv X scope s.heap.objs.size f c')) → PE (lamN X A outer s H E scope f c') body (t E))
    (hdb : (x == ("__debug__" : Str)) = false := by decide) (hd : (a == ("__debug__" : Str)) = false := by decide) (hcd : (a == ("__classdict__" : Str)) = false := by decide) :
    PE X (.Call (.Name x p) [.Lambda params body scope lpos] [] pos) (tLam T TT t) := ⟨fun pins s σ H Q I ⟨hT, h⟩ => by
  refine wpAny_Call_Name_kw (ld_glob I hg hm (PySem.W.callWith_K (h₀ := X.base) I.ok.mod.kin hk (?_ : wpAny _ _ (spliced ((false, eval (.Lambda params body scope lpos) X.env) :: backTo pos (starEach [] X.env))) _ _ s) (by rfl) (by rfl)) hdb)
  refine Calls.spliced_cons (LamX.lam_make2 I TB hcode hmT hu hT hdef (L.has I.ok) fun f c' pm' ctv H1 s1 J eN T1 hf nf ff hc => Calls.spliced_nil ⟨J.kIn, ?_⟩)
  refine wpAny_call (codeAny_mono (R := CR C8.CX0 X.stack X.prog X.w H1 s1 Q C8.E0) ?_ fun r s2 hq => ?_)
  · refine LamX.run_ofS (N := N) (ps := [a]) (us := [.ref f]) (vs := [.ref f]) lk hcg S hr J.env0 (hb s1 [.ref f] J.kIn rfl) (.cons rfl .nil) rfl fun hr' => ?_
    obtain ⟨t', ht', hq'⟩ := hG f c' s1 H1 Q (fun E H' Q' => t E σ H' Q') hr' (fun W pn xe E p1 p2 tk => lam_act (i := 0) J L hf nf ff (hbind _ _ _ _ _) tk hr' (fun A outer s H hr2 => hbody A outer s H E f c' hr2) hN0 hva hd hcd) hc (h H1 eN T1)
    exact ⟨t', ht'.nox, hq'⟩
  · cases r with
    | error e => exact (show False from hq).elim
    | ok fl =>
      cases fl with
      | ret u => exact J.after hq
      | next => exact hq.elim
      | brk => exact hq.elim
      | cont => exact hq.elim⟩
end
end FX
namespace FX
open PySem PySem.Spec PyProof.Rows L2
open LamX (LamS lamEnv CodeO Tabs TabS ExtN tLam TabB)
open L2N (Zn)

/-! ### what law_call tells -/
structure LawE (g : G) (n : Str) (C : Addr) : Prop extends ExG g n C where
  many : ∀ {D : Addr}, g.mg "TooMany" = some (.ref D) → PySem.W.exmOne g.K (.ref C) (.ref D) = some false
  think : ∀ {D : Addr}, g.mg "ThinkError" = some (.ref D) → PySem.W.exmOne g.K (.ref C) (.ref D) = some true
def toldW (w : Wv) (ρ : Rho) : Out Wv := match (fzW w).bind fun w' => grab w' ρ with
  | some (d, ρ') => .ok (.val (.tup [.str "told", d])) ρ'
  | none => .bad
def lawOut (names : List Str) : Out Wv → Out Wv
  | .ok w ρ => toldW w ρ
  | .ex ⟨x, none⟩ ρ => if names.contains x then .ok (.val (.tup [.str (x ++ " +")])) ρ else .bad
  | _ => .bad
def lawCallE (names : List Str) (f : Ev) : Ev := fun ρ => lawOut names (f ρ)
section
variable {g : G} {C : RC} {F F' H H' : Hp} {ρ ρ' : Rho} {σ σ' : St}
theorem Rel.none (R : Rel g C F H ρ σ) (hA : C.anch = []) : Rel g C F H [] [] := ⟨rfl, R.sub, R.subB, R.grow, R.tab, R.noTF, R.noTB, fun i d e => by simp at e, fun i p o e => by simp at e, fun i j a e => by simp [isOwn] at e, fun p hp => by rw [hA] at hp; cases hp⟩
/-- the tables grow -/
theorem Rel.tabs (R : Rel g C F H ρ σ) (e : ExtN H H') (t : Tabs g.T H') : Rel g C F H' ρ σ := ⟨R.len, fun a o h => e a o (R.sub a o h) fun ps z => R.noTF a ps (by rw [h, z]), fun a o h => e a o (R.subB a o h) fun ps z => R.noTB a ps (by rw [h, z]), R.grow, t, R.noTF, R.noTB, R.val, fun i p o h => by
  obtain ⟨a, h1, h2, h3, h4⟩ := R.own i p o h
  obtain ⟨u, hu, hn⟩ := h2.some
  exact ⟨a, h1, h2.mono (Same.refl F) ((e a u hu hn).trans hu.symm), h3, h4⟩, R.inj, R.anc⟩
/-- a frame of frozen values beside -/
abbrev sideC (F H : Hp) : RC := { B := outB H [], F0 := F, anch := [] }
theorem Rel.side (R : Rel g C F H ρ σ) {ds : List D} {vs : List V} (r : RpL g F ds vs) : Rel g (sideC F H) F H (ds.map .val) (vs.map some) := by
  have rs : ∀ {ds : List D} {vs : List V}, RpL g F ds vs → Paired (RpW g C F H ρ σ) (ds.map .val) vs ∧ cellsOf ρ (ds.map .val) = some (ds.map .val) ∧ bors ρ (ds.map .val) = [] := by
    intro ds
    induction ds with
    | nil => intro vs r; cases r; exact ⟨.nil, rfl, rfl⟩
    | cons d ds ih =>
      intro vs r
      cases r with
      | cons h r =>
        obtain ⟨i1, i2, i3⟩ := ih r
        exact ⟨.cons h i1, by simp [cellsOf, cellOf, i2], by simp [bors, i3]⟩
  obtain ⟨i1, i2, i3⟩ := rs r
  have := R.call i1 i2 (by rw [i3]; exact List.nodup_nil)
  unfold addrs at this
  rw [i3] at this
  exact this
theorem Rel.unside {ds : Rho} {τ : St} (R : Rel g C F H ρ σ) (s : Same F F') (R' : Rel g (sideC F H) F' H' ds τ) : Rel g C F' H' ρ σ :=
  (R.ret (ws := []) (vs := []) (cs' := []) .nil s (R'.none rfl) (fun j i h => by simp at h) (fun j p o h => by simp at h)).1
end

/-! ### _law_call -/
section
variable {g : G} {X : Cx} {names : List Str} {m : Str → Addr → Ev} {w : World} {P : Program} {base : Heap} {k kk : Nat}
/-- what the def makes of the lambda's meaning -/
def TLaw (g : G) (names : List Str) : (XK → Hp → VK → Prop) → Hp → VK → Prop := fun tl H Q => ∃ (σ : St) (f : Ev) (C : RC) (F : Hp) (ρ : Rho), (∀ E H' Q', tE g (ZE E) f σ H' Q' → tl E H' Q') ∧ Rel g C F H ρ σ ∧ postE g C F σ Z0 Q (lawOut names (f ρ))
abbrev kindE (m : Str → Addr → Ev) (n : Str) (a : Addr) : Sv := setF 1 (tupE (consA (callF (m n a) (consA (vE 2) nilA)) nilA))
def tsLaw (g : G) (names : List Str) (m : Str → Addr → Ev) : Addr → Value → Option Addr → TS := fun a cls d D σ H => ∃ n ∈ names, (∃ C, LawE g n C ∧ cls = .ref C ∧ d = none) ∧ tS g Z0 (kindE m n a) D σ H
structure LawSc (sc : Scope) : Prop where
  s1 : sc.names.lookup ("call_so" : Str) = some .local
  s2 : sc.names.lookup ("found" : Str) = some .local
  s3 : sc.names.lookup ("e" : Str) = some .local
  s4 : sc.names.lookup ("_law_kinds" : Str) = some .globalImplicit
  s5 : sc.names.lookup ("TooMany" : Str) = some .globalImplicit
  s6 : sc.names.lookup ("ThinkError" : Str) = some .globalImplicit
theorem gives_law {sc : Scope} {gf CT CE : Addr} {cd : Value} {q : Str} {p1 p2 p3 p4 p5 p6 p7 p8 p9 p10 p11 p12 p13 p14 p15 p16 p17 p18 p19 p20 p21 p22 p23 p24 p25 p26 p27 p28 p29 p30 : Pos} {j x1 x2 x3}
    (Fk : FnX g P w base kk "_law_kinds" m) (hkk : kk ≤ k + 1) (hm : ∀ n ∈ names, ∀ a, m n a [.val (.exc n a)] = .ok (.val (.str (n ++ " +"))) [.val (.exc n a)]) (hE : ∀ n ∈ names, ∃ C, LawE g n C) (hT : g.mg "TooMany" = some (.ref CT)) (hTh : g.mg "ThinkError" = some (.ref CE))
    (L : LawSc sc) (hP : X.prog = P := by rfl) (hw : X.w = w := by rfl) (hb : X.base = base := by rfl) (hK : X.K = g.K := by rfl) (hM : X.mg = g.mg := by rfl) :
    GivesN X k ["call_so", "found", "e"] "_law_call" sc gf cd [.Assign [.Name "found" p1] (.Constant .none j p2) p3,
      .Try [.Assign [.Name "found" p4] (.Tuple [.Constant (.str "told") x1 p5, .Call (.Name "call_so" p6) [] [] p7] x2 p8) p9]
        [.ExceptHandler (some (.Name "TooMany" p10)) (some "e") [.Assign [.Name "found" p11] (.Tuple [.Call (.Name "_law_kinds" p12) [.Name "e" p13] [] p14, .Attribute (.Name "e" p15) "limit" p16] x3 p17) p18] p19,
         .ExceptHandler (some (.Name "ThinkError" p20)) (some "e") [.Assign [.Name "found" p21] (.Tuple [.Call (.Name "_law_kinds" p22) [.Name "e" p23] [] p24] x3 p25) p26] p27] [] [] p28,
      .Return (some (.Name "found" p29)) p30] "call_so" q (TLaw g names) := by
  intro f c' s H Q tl hr act hc ⟨σm, fb, C, F, ρ, htl, R, post⟩
  have nd : (["call_so", "found", "e"] : List Str).Nodup := by decide +kernel
  generalize eY : (cxL X ["call_so", "found", "e"] "_law_call" sc gf cd s H).nox = Y
  have s2 : Loc Y.env.scope "found" := by subst eY; exact .inl L.s2
  have loc2 : Y.env.scope.names.lookup ("found" : Str) = some .local := by subst eY; exact L.s2
  have gl4 : Gl Y "_law_kinds" := by subst eY; exact L.s4
  have gl5 : Gl Y "TooMany" := by subst eY; exact L.s5
  have gl6 : Gl Y "ThinkError" := by subst eY; exact L.s6
  have loc3 : Y.env.scope.names.lookup ("e" : Str) = some .local := by subst eY; exact L.s3
  have suite2 : ∀ (a : Addr) (oe : Obj) (cls : Value) (d : Option Addr) (pn : List (Addr × Obj)), Zn cls d oe → (∃ vs, oe.data = .fields vs) → PSs (Y.suite a ((a, oe) :: pn)) [.Assign [.Name "found" p21] (.Tuple [.Call (.Name "_law_kinds" p22) [.Name "e" p23] [] p24] x3 p25) p26] (tsLaw g names m a cls d) := fun a oe cls d pn hz hf => ⟨fun pins s1 τ H1 D I ⟨n, hn, ⟨C1, hC, ec, ed⟩, ht⟩ => by
    subst ec ed
    have hot : L2H.Hot1 (Y.suite a ((a, oe) :: pn)).A (a, oe) := ⟨rfl, hf.elim fun vs e => ⟨vs, e, hz.2.2 vs e⟩⟩
    have ho : HotOk g (a, oe) n := ⟨⟨C1, hC.toExG, hz.zc⟩, hf⟩
    have hrk : L2H.RoomH kk (Y.suite a ((a, oe) :: pn)).A := by
      subst eY
      exact L2H.RoomH.mono (k := k + 1) ⟨hr.dp, hr.un⟩ hkk
    have fe := fs_set (g := g) (X := Y.suite a ((a, oe) :: pn)) (Z := Z0) (x := "found") (pos' := p21) (pos := p26) 1 (by subst eY; exact nd) (fe_tup (x1 := x3) (pos := p25) (fa_cons (fe_callX (q := (a, oe)) (p := p22) (pos := p24) Fk hrk List.mem_cons_self hot ho (fa_cons (fv (x := "e") (pos := p23) 2 (by subst eY; rfl) (.inl loc3)) fa_nil) gl4 (by subst eY; exact hP) (by subst eY; exact hw) (by subst eY; exact hb) (by subst eY; exact hK) (by subst eY; exact hM)) fa_nil)) (by subst eY; rfl) s2 (by rfl) (.inr loc2)
    exact (fss_one fe).run pins s1 τ H1 D I ht⟩
  refine ⟨_, pss_cons (ps_set (i := 1) (by subst eY; exact nd) (by subst eY; rfl) s2 pe_non (by rfl) (.inr loc2)) (pss_cons (ps_tryA (X := Y) (n := "e") (i := 2) (Wout := Z0) (tb := fun W D τ T => ∃ E : XK, τ[0]? = some (some (.ref f)) ∧ T c' = some (CodeO c' q) ∧ (∀ cls d H', E cls d H' → W cls d τ H') ∧ tl E T fun v H' => ([.str "told", v] : List V).length ≤ sizeLine ∧ ∀ p, H' p = none → D.nx (τ.set 1 (some (.ref p))) (upd H' p (.tup [.str "told", v]))) (by subst eY; rfl) (by subst eY; rfl) (by subst eY; exact nd) (by subst eY; rfl) (by subst eY; exact L.s3) takesZ0
    (fun W pn xe tk => ⟨fun pins s' τ T D I ⟨E, h1, h2, h3, h4⟩ => ?_⟩) (.cons (c := .ref CT) (ts := fun _ _ _ _ _ _ => False) ⟨gl5, by decide, .inl (by subst eY; exact hM ▸ hT)⟩ (fun a oe cls d pn _ _ => ⟨fun _ _ _ _ _ _ h => h.elim⟩) (.cons (c := .ref CE) ⟨gl6, by decide, .inl (by subst eY; exact hM ▸ hTh)⟩ suite2 .nil))) (pss_one (ps_ret (pe_var (i := 1) (by subst eY; rfl) (.inl loc2))))), ?_⟩
  · subst eY
    exact (pss_one (ps_set (pos := p9) (pos' := p4) (i := 1) nd rfl (.inl L.s2) (pe_tup (x1 := x2) (pos := p8) (pa_cons (pe_str (j := x1) (pos := p5)) (pa_cons (act W pn xe E p6 p7 tk) pa_nil))))).run pins s' τ T D I ⟨h1, h2, h3, h4⟩
  · have fin : ∀ {F2 H2 : Hp} {ρ2 : Rho} {d : D} {v : V}, Same F F2 → Rel g C F2 H2 ρ2 σm → Rp g F2 d v → lawOut names (fb ρ) = .ok (.val d) ρ2 → Q v H2 := fun {F2 H2 ρ2 d v} s2 R2 r e => by
      rw [e] at post
      exact post F2 H2 s2 R2 v r
    refine ⟨fun cls d H' => wAsM Y.K 2 Z0 { nx := tRet (tVar 1) { nx := fun _ H' => Q .non H', rt := Q }, rt := Q } [(.ref CT, fun _ _ _ _ _ _ => False), (.ref CE, tsLaw g names m)] cls d [some (.ref f), some .non, none] H', rfl, hc, fun _ _ _ h => h, htl _ _ _ ⟨C, F, ρ, R, ?_⟩⟩
    cases e : fb ρ with
    | bad => rw [e] at post; exact post.elim
    | ok w ρ1 =>
      intro F1 H1 s1 R1 v r1
      refine ⟨(by decide : 2 ≤ sizeLine), fun p hp => ⟨.ref p, rfl, ?_⟩⟩
      have e1 : lawOut names (fb ρ) = toldW w ρ1 := by rw [e]; rfl
      cases e2 : (fzW w).bind fun w' => grab w' ρ1 with
      | none => rw [e1] at post; unfold toldW at post; rw [e2] at post; exact post.elim
      | some q2 =>
        obtain ⟨d, ρ2⟩ := q2
        obtain ⟨w', e3, e4⟩ := Option.bind_eq_some_iff.mp e2
        obtain ⟨F2, s2, R2, r2, _⟩ := frozen R1 r1 e3
        obtain ⟨F3, s3, R3, r3⟩ := grab_ok R2 r2 e4
        obtain ⟨F4, s4, R4, r4⟩ := R3.newTup (l := [.str "told", d]) (vs := [.str "told", v]) hp (.cons (.str _) (.cons r3 .nil))
        exact fin (s1.trans (s2.trans (s3.trans s4))) R4 r4 (by rw [e1]; unfold toldW; rw [e2])
    | ex x ρ1 =>
      intro F1 H1 cls d s1 R1 rx
      obtain ⟨xc, xa⟩ := x
      cases xa with
      | some y => rw [e] at post; exact post.elim
      | none =>
        by_cases hn : names.contains xc = true
        · obtain ⟨C0, g1, rfl, ed⟩ := rx
          have ed : d = none := ed
          subst ed
          have hmem : xc ∈ names := by simpa using hn
          obtain ⟨C1, hC⟩ := hE xc hmem
          have := hC.gl
          rw [g1] at this; cases this
          have eK : Y.K = g.K := by subst eY; exact hK
          refine ⟨false, by rw [eK]; exact hC.many hT, (fun z => nomatch z), fun _ => ⟨true, by rw [eK]; exact hC.think hTh, fun _ a na => ⟨xc, hmem, ⟨C0, hC, rfl, rfl⟩, ?_⟩, fun z => nomatch z⟩⟩
          have R2 := R1.side (ds := [.exc "" f, .non, .exc xc a]) (vs := [.ref f, .non, .ref a]) (.cons (.exc _ _) (.cons .non (.cons (.exc _ _) .nil)))
          refine ⟨_, F1, _, R2, ?_⟩
          have run : kindE m xc a (([.exc "" f, .non, .exc xc a] : List D).map .val) = .nx [.val (.exc "" f), .val (.tup [.str (xc ++ " +")]), .val (.exc xc a)] := by
            simp [kindE, setF, bindS, tupE, bindA, consA, bindG, callF, callC, cellsOf, cellOf, bors, vE, nilA, fzW, hm xc hmem a, shapeB, resW, putB, grabs, grab, toNx, setW, canSet, sizeLine_eq]
          rw [run]
          intro F3 H3 τ s3 R3
          obtain ⟨v, h1, h2⟩ := R3.val 1 _ rfl
          exact ⟨v, by rw [List.getElem?_set_ne (by decide)]; exact h1, fin (s1.trans s3) (R1.unside s3 R3) h2 (by rw [e]; simp [lawOut, hmem])⟩
        · rw [e] at post
          simp only [lawOut, if_neg hn] at post
          exact post.elim
end
end FX
namespace FX
open PySem PySem.Spec PyProof.Rows L2
open LamX (LamS lamEnv CodeO Tabs TabS ExtN tLam TabB)

/-! ### _law_call(lambda: e) -/
/-- _law_call as it stands -/
structure LawDef (g : G) (P : Program) (w : World) (base : Heap) (k : Nat) (names : List Str) : Prop where
  ex : ∃ (gf : Addr) (pg : Arguments) (bg : List Stmt) (sc : Scope) (dV kV doc pm cdv ct oc : Value) (an od : Option Addr) (osl : Array (Option Value)) (N : List Str) (a : Str), g.mg "_law_call" = some (.ref gf) ∧ PySem.W.keepIn g.K (.ref gf) = true ∧
    g.K.lookup gf = some ⟨oc, od, .func (PySem.W.fnOf "_law_call" "_law_call" pg bg sc dV kV doc pm an cdv ct), osl⟩ ∧ PySem.W.codeIn g.K cdv "_law_call" = true ∧ L2.Binds g.K (PySem.W.fnOf "_law_call" "_law_call" pg bg sc dV kV doc pm an cdv ct) [a] [] ∧ FnScope N [a] sc ∧ N[0]? = some a ∧ Vis sc a ∧
    (a == ("__debug__" : Str)) = false ∧ (a == ("__classdict__" : Str)) = false ∧ ∀ X : Cx, X.prog = P → X.w = w → X.base = base → X.K = g.K → X.mg = g.mg → GivesN X k N "_law_call" sc gf cdv bg a (X.env.qual ++ "<lambda>") (TLaw g names)
/-- a def in whose body lambdas are made -/
structure LamMk (g : G) (X : Cx) : Prop where
  ex : ∃ c P, TabB X.base X.mg c P ∧ X.env.code = .ref c ∧ (P, X.env.qual ++ "<lambda>") ∈ g.T ∧ ∀ p ∈ g.T, p.1 = P → p.2 = X.env.qual ++ "<lambda>"
theorem lawOut_mono {g : G} {C : RC} {F : Hp} {σ : St} {Z Z' : WX} {Q : VK} {names : List Str} {o : Out Wv} (h : postE g C F σ Z Q (lawOut names o)) : postE g C F σ Z' Q (lawOut names o) := by
  cases o with
  | bad => exact h
  | ok w ρ =>
    show postE g C F σ Z' Q (toldW w ρ)
    have h : postE g C F σ Z Q (toldW w ρ) := h
    unfold toldW at h ⊢
    split
    · rename_i e; rw [e] at h; exact h
    · rename_i e; rw [e] at h; exact h
  | ex x ρ =>
    obtain ⟨xc, xa⟩ := x
    cases xa with
    | some y => exact h
    | none =>
      simp only [lawOut] at h ⊢
      split
      · rename_i hn; rw [if_pos hn] at h; exact h
      · rename_i hn; rw [if_neg hn] at h; exact h
section
variable {g : G} {P : Program} {w : World} {base : Heap} {k : Nat} {names : List Str} {X : Cx} {Z : WX}
theorem fe_law {params : Arguments} {body : Expr} {scope : Scope} {f : Ev} {p lpos pos : Pos} (W : LawDef g P w base k names) (M : LamMk g X) (hr : Room (k + 2) X.A)
    (hbody : ∀ (A : Around) (outer : List Env) (s : Shared) (H : Hp) (E : XK) (fa c' : Addr), Room k (A.deeper (lamEnv X scope s.heap.objs.size fa c')) → FE g (lamN X A outer s H E scope fa c') (ZE E) body f)
    (hL : LamX.lamSB X.env.scope scope = true := by rfl) (hg : Gl X "_law_call" := by rfl) (hP : X.prog = P := by rfl) (hw : X.w = w := by rfl) (hb : X.base = base := by rfl) (hK : X.K = g.K := by rfl) (hM : X.mg = g.mg := by rfl) (hdef : defaultsOf params X.env = ([], []) := by rfl)
    (hbind : ∀ (q : Str) (cl : List (Str × Addr)) (pm cv ctv : Value), bindArgs (PySem.W.kla_fn "<lambda>" q params body scope cl pm cv ctv) ⟨[], []⟩ = pure [] := by intros; rfl) :
    FE g X Z (.Call (.Name "_law_call" p) [.Lambda params body scope lpos] [] pos) (lawCallE names f) := by
  obtain ⟨gf, pg, bg, sc, dV, kV, doc, pm, cdv, ct, oc, an, od, osl, N, a, w1, w2, w3, w4, w5, w6, w7, w8, w9, w10, w11⟩ := W.ex
  obtain ⟨c, T, m1, m2, m3, m4⟩ := M.ex
  have hG := w11 X hP hw hb hK hM
  rw [← hK] at w2 w3 w4 w5
  rw [← hM] at w1
  refine pe_imp (lam_call (T := g.T) (t := fun E => tE g (ZE E) f) hg w1 w2 w3 w4 w5 w6 w7 w8 hG m1 m2 m3 m4 hr (LamX.lamS_by hL) hdef hbind hbody (by decide) w9 w10) fun σ H Q ⟨C, F, ρ, R, P1⟩ => ⟨R.tab, fun H1 e t => ?_⟩
  exact ⟨σ, f, C, F, ρ, fun _ _ _ h => h, R.tabs e t, lawOut_mono P1⟩
/-- _law_call by its text -/
theorem lawDef_mk {d : He.DefD} {fd : FuncData} {N : List Str} {a : Str} (F : FunD g.K d.name d.qual d.params d.body d.scope [] [] (He.fAd g.K d.at_) fd) (e1 : d.name = "_law_call") (e2 : d.qual = "_law_call") (hm : g.mg "_law_call" = some (.ref (He.fAd g.K d.at_))) (S : FnScope N [a] d.scope) (hb : Binds g.K fd [a] []) (h0 : N[0]? = some a) (hv : Vis d.scope a)
    (hd : (a == ("__debug__" : Str)) = false) (hcd : (a == ("__classdict__" : Str)) = false) (G : ∀ (X : Cx) (cdv : Value), X.prog = P → X.w = w → X.base = base → X.K = g.K → X.mg = g.mg → GivesN X k N "_law_call" d.scope (He.fAd g.K d.at_) cdv d.body a (X.env.qual ++ "<lambda>") (TLaw g names)) : LawDef g P w base k names := by
  obtain ⟨oc, od, dV, kV, doc, pm, an, cdv, ct, osl, rfl, lk, hcd2, _, _⟩ := F.ex
  rw [e1, e2] at lk hb
  rw [e2] at hcd2
  exact ⟨_, _, _, _, _, _, _, _, _, _, _, _, _, _, _, _, hm, F.kp, lk, hcd2, hb, S, h0, hv, hd, hcd, fun X y1 y2 y3 y4 y5 => G X cdv y1 y2 y3 y4 y5⟩
end
end FX
namespace FX
open PySem PySem.Spec PyProof.Rows L2
open LamX (TabB)

/-! ### the top's facts, by one Bool -/
def oneB (K : PySem.W.Frag) (x : Str) (c : Value) (b : Bool) : Bool := decide (PySem.W.exmOne K (.ref (He.ga K x)) c = some b)
def kitO (K : PySem.W.Frag) (x : Str) (c : Value) (b : Bool) : Bool := decide (PySem.W.kitOne K (.ref (He.ga K x)) c = some b)
def excCB (K : PySem.W.Frag) (C : Addr) : Bool := He.eqO (PySem.W.findIn K (.ref C) "__getattribute__") (some (some (.builtin "BaseException.__getattribute__"))) && (He.eqO (PySem.W.findIn K (.ref C) "__getattr__") (some none) && (decide (PySem.W.subIn K (.ref C) (.type "BaseException") = some true) &&
  (PySem.W.hasDictIn K C && (He.eqO (PySem.W.findIn K (.ref C) "__class__") (some (some (.builtin "object.__class__"))) && (He.eqO (PySem.W.specialIn K (.builtin "object.__class__") "__get__") (some (some (.builtin "getset_descriptor.__get__"))) &&
  (decide (PySem.W.takesIn K (.builtin "object.__class__") = some true) && decide (PySem.W.mroIn K C (.type "object") = some true)))))))
theorem excC_ok {K : PySem.W.Frag} {C : Addr} (h : excCB K C = true) : ExcC K C := by
  simp only [excCB, Bool.and_eq_true, decide_eq_true_eq] at h
  obtain ⟨h1, h2, h3, h4, h5, h6, h7, h8⟩ := h
  exact ⟨He.eqO_ok h1, He.eqO_ok h2, h3, h4, He.eqO_ok h5, He.eqO_ok h6, h7, h8⟩
/-- the own errors ns, among the classes cs -/
def errB (K : PySem.W.Frag) (ns cs : List Str) : Bool := ns.all fun n => (He.Fa.exc n).ok K && (He.eqO (PySem.W.nsIn K mainGlobals n) (some (some (.ref (He.ga K n)))) && (oneB K n (.ref (He.ga K "TooMany")) false && (oneB K n (.ref (He.ga K "ThinkError")) true &&
  (excCB K (He.ga K n) && (kitO K n (.type "ValueError") true && cs.all fun c => kitO K n (.ref (He.ga K c)) (decide (n = c)))))))
/-- lambda makers' tables -/
def lamT (K : PySem.W.Frag) (tf : List (He.Defn × Str)) : List (Addr × Str) := tf.map fun p => ((He.cT K p.1).2, p.2)
def nodB : List Addr → Bool
  | [] => true
  | a :: l => !l.contains a && nodB l
def lamB (K : PySem.W.Frag) (tf : List (He.Defn × Str)) : Bool := nodB ((lamT K tf).map (·.1))
theorem nod_uniq : ∀ {l : List (Addr × Str)}, nodB (l.map (·.1)) = true → ∀ p ∈ l, ∀ q ∈ l, p.1 = q.1 → p = q
  | [], _, p, hp, _, _, _ => nomatch hp
  | a :: l, h, p, hp, q, hq, e => by
    simp only [List.map_cons, nodB, Bool.and_eq_true, Bool.not_eq_true', List.contains_eq_mem, decide_eq_false_iff_not] at h
    have no : ∀ r ∈ l, r.1 ≠ a.1 := fun r hr z => h.1 (List.mem_map.mpr ⟨r, hr, z⟩)
    rcases List.mem_cons.mp hp with h1 | h1
    · rcases List.mem_cons.mp hq with h2 | h2
      · rw [h1, h2]
      · exact absurd (by rw [← e, h1]) (no q h2)
    · rcases List.mem_cons.mp hq with h2 | h2
      · exact absurd (by rw [e, h2]) (no p h1)
      · exact nod_uniq h.2 p h1 q h2 e
section
variable {K : PySem.W.Frag} {h : Heap} {mg : Str → Option Value} {T : List (Addr × Str)} {ns cs : List Str}
theorem err_ok (X : K.In h) (G : h.Ns mainGlobals mg) (e : errB K ns cs = true) (gT : mg "TooMany" = some (.ref (He.ga K "TooMany"))) (gE : mg "ThinkError" = some (.ref (He.ga K "ThinkError"))) {n : Str} (hn : n ∈ ns) :
    LawE ⟨K, mg, T⟩ n (He.ga K n) ∧ PySem.W.kitOne K (.ref (He.ga K n)) (.type "ValueError") = some true ∧ ∀ c ∈ cs, PySem.W.kitOne K (.ref (He.ga K n)) (.ref (He.ga K c)) = some (decide (n = c)) := by
  have q := List.all_eq_true.mp e n hn
  simp only [Bool.and_eq_true, oneB, kitO, decide_eq_true_eq] at q
  obtain ⟨q1, q2, q3, q4, q5, q6, q7⟩ := q
  obtain ⟨e1, e2, e3, e4⟩ := He.exc_ok q1
  refine ⟨{ gl := PySem.W.mg_of X G (He.eqO_ok q2), mkx := e1, kp := e2, sb := e3, ty := e4, isx := excC_ok q5, many := fun {D} hD => ?_, think := fun {D} hD => ?_ }, q6, fun c hc => ?_⟩
  · have hD : mg "TooMany" = some (.ref D) := hD
    rw [gT] at hD; cases hD; exact q3
  · have hD : mg "ThinkError" = some (.ref D) := hD
    rw [gE] at hD; cases hD; exact q4
  · have := List.all_eq_true.mp q7 c hc
    simpa only [decide_eq_true_eq] using this
end
end FX
namespace FX
open PySem PySem.Spec PyProof.Rows L2

/-! ### a < b < c -/
def chainE (sem sem' : D → D → Option Wv) (fa fb fc : Ev) : Ev := bindG fa fun w1 => bindG fb fun w2 ρ => match lift2 sem w1 w2 ρ with
  | .ok (.val (.bl k)) ρ' => if k then bindG fc (fun w3 => lift2 sem' w2 w3) ρ' else .ok (.val (.bl false)) ρ'
  | _ => .bad
section
variable {g : G} {C : RC} {F H : Hp} {ρ ρ' : Rho} {σ : St} {Z : WX} {X : Cx} {a b c : Expr} {fa fb fc : Ev} {r r' : R2} {sem sem' : D → D → Option Wv} {pos : Pos}
theorem chain_use (hs : SemR g r sem) (hs' : SemR g r' sem') {Q : VK} (h : tE g Z (chainE sem sem' fa fb fc) σ H Q) : tChain r r' (tE g Z fa) (tE g Z fb) (tE g Z fc) σ H Q := by
  obtain ⟨C, F, ρ, R, P⟩ := h
  refine post_bind R P fun F1 H1 ρ1 w1 v1 s1 R1 r1 n1 P1 => post_bind R1 P1 fun F2 H2 ρ2 w2 v2 s2 R2 r2 n2 P2 => ?_
  refine lift2_use (Z := Z) hs R2 (r1.mono s2 n1) r2 ?_
  cases e : lift2 sem w1 w2 ρ2 with
  | bad => simp only [e] at P2; exact P2.elim
  | ex x ρ' => simp only [e] at P2; exact P2.elim
  | ok w ρ' =>
    simp only [e] at P2
    cases w with
    | bor i => exact P2.elim
    | new o => exact P2.elim
    | val d =>
      cases d with
      | bl k =>
        intro F' H' s R' v rv
        cases rv
        refine ⟨k, rfl, ?_⟩
        cases k with
        | false => exact P2 F' H' s R' _ (.bl false)
        | true => exact post_bind R' (P2.mono s) fun F3 H3 ρ3 w3 v3 s3 R3 r3 n3 P3 => lift2_use hs' R3 (RpW.mono (H' := H3) (ρ' := ρ3) (s.trans s3) n2 r2) r3 P3
      | _ => exact P2.elim
theorem fe_chain {op op' : CmpOp} (ho : OpR X (compareOp op) r) (hs : SemR g r sem) (ho' : OpR X (compareOp op') r') (hs' : SemR g r' sem') (ha : FE g X Z a fa) (hb : FE g X Z b fb) (hc : FE g X Z c fc) (hm : lastMarks [op, op'] [b, c] = false := by first | rfl | with_unfolding_all rfl) :
    FE g X Z (.Compare a [op, op'] [b, c] pos) (chainE sem sem' fa fb fc) := pe_imp (pe_chain ho ho' ha hb hc hm) fun σ H Q h => chain_use hs hs' h
theorem ft_chain {op op' : CmpOp} (ho : OpR X (compareOp op) r) (hs : SemR g r sem) (ho' : OpR X (compareOp op') r') (hs' : SemR g r' sem') (ha : FE g X Z a fa) (hb : FE g X Z b fb) (hc : FE g X Z c fc) (hm : lastMarks [op, op'] [b, c] = false := by first | rfl | with_unfolding_all rfl) :
    FT g X Z (.Compare a [op, op'] [b, c] pos) (valT (chainE sem sem' fa fb fc)) := pt_imp (pt_chain ho ho' ha hb hc hm) fun σ H Q h => chain_use hs hs' (valT_use h)
end
/-! ### the wish of a def's body -/
theorem tkD {P : Program} {w : World} {K : PySem.W.Frag} {mg : Str → Option Value} {base : Heap} {N : List Str} {q : Str} {sc : Scope} {f : Addr} {cd : Value} {A : Around} {outer : List Env} {s : Shared} {H : Hp} {E : XK} : L2N.Takes (cxOf (L2N.CX P w) P w K mg base N q sc f cd A outer s H E) (ZE E) := L2N.takes_of rfl rfl rfl rfl
theorem tkL {X : Cx} {A : Around} {outer : List Env} {s : Shared} {H : Hp} {E : XK} {scope : Scope} {f c' : Addr} : L2N.Takes (lamN X A outer s H E scope f c') (ZE E) := lamN_takes
theorem poD {P : Program} {w : World} {K : PySem.W.Frag} {mg : Str → Option Value} {base : Heap} {N : List Str} {q : Str} {sc : Scope} {f : Addr} {cd : Value} {A : Around} {outer : List Env} {s : Shared} {H : Hp} {E : XK} : PassesOwn (model P w) (cxOf (L2N.CX P w) P w K mg base N q sc f cd A outer s H E).A (cxOf (L2N.CX P w) P w K mg base N q sc f cd A outer s H E).env (cxOf (L2N.CX P w) P w K mg base N q sc f cd A outer s H E).xe := passes_of rfl
end FX
namespace FX
open PySem PySem.Spec PyProof.Rows L2

/-! ### t[::-1], t a tuple -/
theorem range_pick {α : Type} : ∀ l : List α, (List.range l.length).filterMap (fun m => l[m]?) = l
  | [] => rfl
  | a :: l => by
    rw [List.length_cons, List.range_succ_eq_map, List.filterMap_cons]
    simp only [List.getElem?_cons_zero, List.filterMap_map]
    exact congrArg _ (range_pick l)
theorem pick_congr {α β : Type} {f h : α → Option β} : ∀ {l : List α}, (∀ a ∈ l, f a = h a) → l.filterMap f = l.filterMap h
  | [], _ => rfl
  | a :: l, e => by
    rw [List.filterMap_cons, List.filterMap_cons, e a (List.mem_cons_self ..), pick_congr fun b hb => e b (List.mem_cons_of_mem _ hb)]
theorem rev_pick (xs : Array Value) : ((List.range xs.size).filterMap fun (m : Nat) => xs[(((xs.size : Nat) : Int) - 1 + (m : Int) * (-1)).toNat]?) = xs.toList.reverse := by
  have e := range_pick xs.toList.reverse
  rw [List.length_reverse, Array.length_toList] at e
  rw [← e]
  refine pick_congr fun m hm => ?_
  have hm : m < xs.size := List.mem_range.mp hm
  have := List.getElem?_reverse (l := xs.toList) (i := m) (by simpa using hm)
  rw [this, ← Array.getElem?_toList]
  congr 1
  rw [Array.length_toList]
  omega
section
variable {prog : Program} {w : World} {A : Around} {E : Value → Shared → Prop} {s : Shared}
theorem tup_rev {t sl : Addr} {xs : Array Value} {vs : Value} {Q : Value → Shared → Prop} (ht : IsTup s.heap t xs) (hs : s.heap.IsSliceOf sl .none .none vs) (ps : IsPart vs (some (-1))) (hz : xs.size ≤ sizeLine)
    (h : Q (.ref s.heap.objs.size) { s with heap := s.heap.push { cls := .type "tuple", data := .seq xs.toList.reverse.toArray } }) : wpAny (model prog w) A (getItem (.ref t) (.ref sl)) Q E s := by
  obtain ⟨os, ho, hc, hd⟩ := id hs
  have ty : s.TypeIs (.ref sl) "slice" := ⟨os, ho, hc⟩
  have fits : sizeOk (.seq xs.toList.reverse.toArray) := by
    show xs.toList.reverse.toArray.size ≤ sizeLine
    simpa using hz
  unfold getItem
  try with_reducible refine wpAny_holding ?_
  first | refine wpAny_bind (wpAny_pure ?_) | skip
  refine wpAny_bind (wpAny_sequenceKey ht.typeIs (by decide) (wpAny_bind (wpAny_callSpecial?_slot (name := Str.ofString "__getitem__") ht.typeIs slot_tuple_getitem (wpAny_call_entry slot_tuple_getitem ht.typeIs entry_tuple_getitem (?_ : wpAny _ _ (Builtin.Tuple.tupleItemsOf (.ref t) >>= _) _ _ s) (args_tuple_getitem _ _)))))
  refine wpAny_bind (tupleItemsOf_ ht (wpAny_bind (wpAny_typeOf ty ?_)))
  rw [if_pos (by decide)]
  refine wpAny_bind ?_
  unfold Builtin.Slice.sliceApplied Builtin.Slice.sliceFields
  refine wpAny_bind (wpAny_bind (wpAny_field ho hd (x := .none) rfl (wpAny_bind (wpAny_field ho hd (x := .none) rfl (wpAny_bind (wpAny_field ho hd (x := vs) rfl (wpAny_pure ?_)))))))
  refine wpAny_bind (HT.slicePart_ ps (?_ : wpAny _ _ (if ((-1 : Int) == 0) = true then _ else _) _ _ s))
  rw [if_neg (by decide)]
  refine wpAny_bind (slicePart_none (wpAny_bind (slicePart_none (wpAny_bind (wpAny_pure ?_)))))
  have adj : Builtin.Slice.sliceAdjust none none (-1) (xs.size : Int) = ((xs.size : Int) - 1, -1) := by
    unfold Builtin.Slice.sliceAdjust
    simp
  have pl : Builtin.Slice.slicePlaces ((xs.size : Int) - 1) (-1) (-1) = xs.size := by
    unfold Builtin.Slice.slicePlaces
    have h1 : ¬ ((-1 : Int) > 0) := by omega
    simp only [h1, if_false]
    split
    · simp
    · simp; omega
  refine (?_ : wpAny _ _ (match Builtin.Slice.sliceAdjust none none (-1) (xs.size : Int) with | (lo, hi) => pure (lo, (-1 : Int), Builtin.Slice.slicePlaces lo hi (-1))) _ _ s)
  rw [adj]
  refine (?_ : wpAny _ _ (pure ((xs.size : Int) - 1, (-1 : Int), Builtin.Slice.slicePlaces ((xs.size : Int) - 1) (-1) (-1))) _ _ s)
  rw [pl]
  refine wpAny_pure (?_ : wpAny _ _ (if ((xs.size : Int) - 1 == 0 && (-1 : Int) == 1 && xs.size == xs.size) = true then _ else _) _ _ s)
  rw [if_neg (by simp), rev_pick]
  first
    | exact wpAny_bind (m := Builtin.Tuple.tupleExact _) (wpAny_newObj_type (wpAny_pure ⟨_, rfl, wpAny_pure h⟩) fits)
    | exact wpAny_bind (m := Builtin.Tuple.tupleExact _) (wpAny_newObj_type (wpAny_bind (wpAny_pure (wpAny_pure ⟨_, rfl, wpAny_pure h⟩))) fits)
    | exact wpAny_bind (wpAny_bind (m := Builtin.Tuple.tupleExact _) (wpAny_newObj_type (wpAny_pure (wpAny_pure ⟨_, rfl, wpAny_pure h⟩)) fits))
    | exact wpAny_bind (wpAny_bind (m := Builtin.Tuple.tupleExact _) (wpAny_newObj_type (wpAny_pure ⟨_, rfl, wpAny_pure h⟩) fits))
end
def tRevA (K : PySem.W.Frag) (te : TE) : TE := fun σ H Q => te σ H fun x H1 => ∃ a xs, x = .ref a ∧ ((SqL K H1 a xs ∧ ∀ p, H1 p = none → Q (.ref p) (upd H1 p (.lst xs.reverse))) ∨ (SqT K H1 a xs ∧ ∀ p, H1 p = none → Q (.ref p) (upd H1 p (.tup xs.reverse))))
theorem pe_revA {X : Cx} {e : Expr} {te : TE} {k : Nat} {p1 p2 p3 pos : Pos} (he : PE X e te) : PE X (.Subscript e (.Slice none none (some (.UnaryOp .USub (.Constant (.int 1) k p1) p2)) p3) pos) (tRevA X.K te) := ⟨fun pins s σ H Q I h => by
  refine Subscript_ (thn (he.run pins s σ H _ I h) fun v s1 ⟨x, H1, I1, r1, a, xs, ex, q⟩ => ?_)
  subst ex
  cases r1
  have neg1 : PO X (some (.UnaryOp .USub (.Constant (.int 1) k p1) p2)) (tPart (tUn (rU fun i => .int (-i)) (tC (.int 1)))) := po_some (pe_un un_neg pe_int)
  refine wpAny_Slice (thn (po_none.run pins s1 σ H1 (fun o H2 => o = none ∧ H2 = H1) I1 ⟨rfl, rfl⟩) fun vl s2 ⟨l, H2, I2, pl, el, e2⟩ => ?_)
  subst el e2
  refine thn (po_none.run pins s2 σ H2 (fun o H3 => o = none ∧ H3 = H2) I2 ⟨rfl, rfl⟩) fun vu s3 ⟨u, H3, I3, pu, eu, e3⟩ => ?_
  subst eu e3
  refine thn (neg1.run pins s3 σ H3 (fun o H4 => o = some (-1) ∧ H4 = H3) I3 ⟨1, rfl, -1, rfl, rfl, rfl⟩) fun vs s4 ⟨o, H4, I4, ps, eo, e4⟩ => ?_
  subst eo e4
  have I5 : Inv X pins σ H4 { s4 with heap := s4.heap.push { cls := .type "slice", data := .fields #[vl, vu, vs] } } := I4.kept (t' := s4.toks) fun b ob q => Heap.get?_push_of_some _ q
  refine (?_ : wpAny (model X.prog X.w) X.A (subscriptTail e (.Slice none none (some (.UnaryOp .USub (.Constant (.int 1) k p1) p2)) p3) (.ref a) (.ref s4.heap.objs.size)) (EP X pins σ Q) X.xe { s4 with heap := s4.heap.push { cls := .type "slice", data := .fields #[vl, vu, vs] } })
  rcases q with ⟨hx, q⟩ | ⟨hx, q⟩
  · obtain ⟨its, r, ht, hz⟩ := I5.list hx
    have hl := r.length
    refine tail_any (ops := [.ref a, .ref s4.heap.objs.size]) ht.isList.typeIs PySem.slot_list_getitem.lookup (wpAny_getItem_list_slice ht.isList (Heap.IsSliceOf.new _ vl vu vs) pl pu ps (by decide) ?_ (by rw [List.size_toArray]; omega)) (by with_unfolding_all rfl)
    rw [PySem.W.krv_pick]
    exact ⟨.ref _, _, I5.laid (t' := s4.toks) (o := .lst xs.reverse) (fun b ob q => Heap.get?_push_of_some _ q) (Nat.le_refl _) ⟨by rw [List.length_reverse]; exact hz, _, 0, r.reverse, Heap.get?_push_size _ rfl⟩, rfl, q _ (I5.hok.fresh (Nat.le_refl _))⟩
  · obtain ⟨its, r, ht, hz⟩ := I5.tuple hx
    have hl := r.length
    have el : vl = .none := by cases pl <;> first | rfl | (rename_i h; cases h)
    have eu : vu = .none := by cases pu <;> first | rfl | (rename_i h; cases h)
    subst el eu
    refine tail_any (ops := [.ref a, .ref s4.heap.objs.size]) ht.typeIs slot_tuple_getitem.lookup (tup_rev ht (Heap.IsSliceOf.new _ .none .none vs) ps (by rw [List.size_toArray]; omega) ?_) (by with_unfolding_all rfl)
    refine ⟨.ref _, _, I5.laid (t' := s4.toks) (o := .tup xs.reverse) (fun b ob q => Heap.get?_push_of_some _ q) (Nat.le_refl _) ⟨by rw [List.length_reverse]; exact hz, _, r.reverse, ⟨_, Heap.get?_push_size _ rfl, rfl, 0, rfl⟩⟩, rfl, q _ (I5.hok.fresh (Nat.le_refl _))⟩⟩
def rvD (d : D) : Option Wv := match d with
  | .lst l => some (.new (.lst l.reverse))
  | .tup l => some (.val (.tup l.reverse))
  | _ => none
theorem fe_rv {g : G} {X : Cx} {Z : WX} {e : Expr} {fa : Ev} {pos : Pos} {k : Nat} {p1 p3 p4 : Pos} (he : FE g X Z e fa) (hK : g.K = X.K := by rfl) : FE g X Z (.Subscript e (.Slice none none (some (.UnaryOp .USub (.Constant (.int 1) k p1) p3)) p4) pos) (unE rvD fa) :=
  pe_imp (pe_revA he) fun σ H Q ⟨C, F, ρ, R, P⟩ => post_bind R P fun F1 H1 ρ1 w v s1 R1 r1 n1 P1 => by
    refine lift1_use (r := fun v H Q => ∃ a xs, v = .ref a ∧ ((SqL X.K H a xs ∧ ∀ p, H p = none → Q (.ref p) (upd H p (.lst xs.reverse))) ∨ (SqT X.K H a xs ∧ ∀ p, H p = none → Q (.ref p) (upd H p (.tup xs.reverse))))) ?_ R1 r1 P1
    intro C F H ρ σ d v1 w Q R r1 e P
    rw [← hK]
    cases d with
    | lst l =>
      cases e
      obtain ⟨a, vs, rfl, hs, rs⟩ := r1
      refine ⟨a, vs, rfl, .inl ⟨.inl (.inl hs), fun p hp => ?_⟩⟩
      obtain ⟨R2, r2⟩ := R.newLst hp rs.reverse
      exact P F _ (Same.refl F) R2 _ r2
    | tup l =>
      cases e
      have r1 : Rp g F (.tup l) v1 := r1
      cases r1 with
      | tup hs rs =>
        refine ⟨_, _, rfl, .inr ⟨sqT_same R.sub hs, fun p hp => ?_⟩⟩
        obtain ⟨F2, s2, R2, r2⟩ := R.newTup hp rs.reverse
        exact P F2 _ s2 R2 _ r2
    | _ => cases e
/-- a bound of a loop's turns -/
def fuel : Nat := 1000000
end FX
namespace FX
open PySem PySem.Spec PyProof.Rows L2
open LamX (TabB Tabs TabS)

/-! ### the law's end -/
section
variable {K : PySem.W.Frag} {mg : Str → Option Value} {T : List (Addr × Str)} {H : Hp} {a : Addr} {ns : List Int}
theorem start_law {m : Ev} {cs' : List Cell} (hT : ∀ p ∈ T, H p.1 = some (.tbl #[])) (hS : SqL K H a (ns.map V.int)) (hm : m [.val (.scr ns)] = .ok (.val (.bl true)) cs') : spF ⟨K, mg, T⟩ 1 m [.ref a] H (fun v _ => v = .bl true) fun _ _ _ => False := by
  have tabs : Tabs T H := fun p hp => TabS.nil (hT p hp)
  have go : ∀ F : Hp, Same F H → (∀ b ps, F b ≠ some (.tbl ps)) → SqL K F a (ns.map V.int) → spF ⟨K, mg, T⟩ 1 m [.ref a] H (fun v _ => v = .bl true) fun _ _ _ => False := fun F s n hF => by
    refine ⟨rfl, { B := fun _ => none, F0 := F, anch := [] }, F, [.val (.scr ns)], rfl, ?_, ?_⟩
    · refine ⟨rfl, s, fun b o e => (nomatch e), fun b o e => .inl e, tabs, n, fun b ps e => (nomatch e), fun i d e => ?_, fun i p o e => ?_, fun i j b e => ?_, fun p hp => (nomatch hp)⟩
      · cases i with
        | zero => simp at e; subst e; exact ⟨.ref a, rfl, .scr hF⟩
        | succ i => simp at e
      · cases i <;> simp at e
      · cases i <;> simp [isOwn] at e
    · rw [hm]
      intro F' H' s' R' v r
      cases r
      rfl
  rcases hS with h | h
  · refine go (fun b => if b = a then H b else none) (fun b o e => ?_) (fun b ps e => ?_) ?_
    · replace e : (if b = a then H b else none) = some o := e
      by_cases hb : b = a
      · rw [if_pos hb] at e; exact e
      · rw [if_neg hb] at e; cases e
    · replace e : (if b = a then H b else none) = some (.tbl ps) := e
      by_cases hb : b = a
      · rw [if_pos hb, hb] at e
        rcases h with h | ⟨o, h⟩ <;> rw [h] at e <;> cases e
      · rw [if_neg hb] at e; cases e
    · left
      rcases h with h | ⟨o, h⟩
      · exact .inl ((if_pos rfl).trans h)
      · exact .inr ⟨o, (if_pos rfl).trans h⟩
  · exact go (fun _ => none) (fun b o e => (nomatch e)) (fun b ps e => (nomatch e)) (.inr h)
end
theorem lawAt_mk {l : PySem.W.OpenLaw} {w : World} {K : PySem.W.Frag} {mg : Str → Option Value} {h : Heap} {fa : List He.Fa} {fn : List He.DefD} {tf : List (He.Defn × Str)} {ex : PySem.W.Frag → Bool} {k n : Nat} {f : Addr} {fd : FuncData} {m : Ev} (X : K.In h) (c : He.SaysX fa fn [] (tf.map (·.1)) ex w h K)
    (hb : ∀ (s : Shared) (u : Value), BindsTo s fd ⟨[u], []⟩ [("script", u)]) (F : ∀ base : Heap, K.In base → base.Ns mainGlobals mg → (∀ p ∈ (tf.map (·.1)).map (He.cT K), TabB base mg p.1 p.2) → FnOk l.prog w K mg base (L2N.CX l.prog w) k f fd ["script"] (spF ⟨K, mg, lamT K tf⟩ 1 m))
    (law : ∀ ns : List Int, ns.length ≤ n → (∀ z ∈ ns, Builtin.Int.intBits z ≤ 1048576) → ∃ cs', m [.val (.scr ns)] = .ok (.val (.bl true)) cs') : LamX.LawAtS l w K (L2N.CX l.prog w) k n "script" mg f h := by
  have at_ : ∀ p ∈ (tf.map (·.1)).map (He.cT K), ∃ q ∈ tf.map (·.1), p = He.cT K q := fun p hp => (List.mem_map.mp hp).elim fun q ⟨h1, h2⟩ => ⟨q, h1, h2.symm⟩
  refine ⟨fd, (tf.map (·.1)).map (He.cT K), _, fun p hp => ?_, fun p hp => ?_, fun p hp => ?_, hb, fun H a ns hl hbits hT hS => ?_, F⟩
  · obtain ⟨q, hq, rfl⟩ := at_ p hp; exact c.empty q hq
  · obtain ⟨q, hq, rfl⟩ := at_ p hp; exact c.out q hq
  · obtain ⟨q, hq, rfl⟩ := at_ p hp; exact PySem.W.codeHd_of_K X (c.hd q hq)
  · obtain ⟨cs', hm⟩ := law ns hl hbits
    refine start_law (fun p hp => ?_) hS hm
    obtain ⟨q, hq, rfl⟩ := List.mem_map.mp hp
    exact hT (He.cT K q.1) (List.mem_map.mpr ⟨q.1, List.mem_map.mpr ⟨q, hq, rfl⟩, rfl⟩)
/-- a def that makes lambdas, by the top's facts -/
theorem lamMk_of {K : PySem.W.Frag} {mg : Str → Option Value} {base : Heap} {tf : List (He.Defn × Str)} (hl : lamB K tf = true) (TB : ∀ p ∈ (tf.map (·.1)).map (He.cT K), TabB base mg p.1 p.2) {X : Cx} {q : He.Defn} {x : Str} (hq : (q, x) ∈ tf) (h1 : X.base = base) (h2 : X.mg = mg) (h3 : X.env.code = .ref (He.codeOf K q)) (h4 : X.env.qual ++ "<lambda>" = x) :
    LamMk ⟨K, mg, lamT K tf⟩ X := by
  refine ⟨(He.cT K q).1, (He.cT K q).2, ?_, h3, ?_, fun p hp e => ?_⟩
  · rw [h1, h2]; exact TB _ (List.mem_map.mpr ⟨q, List.mem_map.mpr ⟨_, hq, rfl⟩, rfl⟩)
  · rw [h4]; exact List.mem_map.mpr ⟨_, hq, rfl⟩
  · rw [h4]
    have := nod_uniq hl p hp ((He.cT K q).2, x) (List.mem_map.mpr ⟨_, hq, rfl⟩) e
    rw [this]
/-- constants of the top -/
theorem fe_tupK {g : G} {X : Cx} {Z : WX} {x : Str} {vs : List V} {ds : List D} {p : Pos} (hg : Gl X x) (hm : g.mg x = some (.ref (He.ga g.K x))) (hs : ∀ F, SqT g.K F (He.ga g.K x) vs) (r : ∀ F, RpL g F ds vs) (hM : X.mg = g.mg := by rfl) (hd : (x == ("__debug__" : Str)) = false := by decide) : FE g X Z (.Name x p) (cE (.tup ds)) :=
  fe_glob (v := .ref (He.ga g.K x)) (u := .ref (He.ga g.K x)) hg (by rw [hM]; exact hm) rfl (fun F => .tup (hs F) (r F)) hd
theorem fe_intK {g : G} {X : Cx} {Z : WX} {x : Str} {i : Int} {p : Pos} (hg : Gl X x) (hm : ∃ t, g.mg x = some (.int i t)) (hM : X.mg = g.mg := by rfl) (hd : (x == ("__debug__" : Str)) = false := by decide) : FE g X Z (.Name x p) (cE (.int i)) := by
  obtain ⟨t, ht⟩ := hm
  exact fe_glob (v := .int i) (u := .int i t) hg (by rw [hM]; exact ht) ⟨t, rfl⟩ (fun F => .int i) hd
theorem fe_strK {g : G} {X : Cx} {Z : WX} {x y : Str} {p : Pos} (hg : Gl X x) (hm : ∃ t, g.mg x = some (.str y t)) (hM : X.mg = g.mg := by rfl) (hd : (x == ("__debug__" : Str)) = false := by decide) : FE g X Z (.Name x p) (cE (.str y)) := by
  obtain ⟨t, ht⟩ := hm
  exact fe_glob (v := .str y) (u := .str y t) hg (by rw [hM]; exact ht) ⟨t, rfl⟩ (fun F => .str y) hd
theorem rpl_strs {g : G} {F : Hp} : ∀ l : List Str, RpL g F (l.map .str) (l.map V.str)
  | [] => .nil
  | a :: l => .cons (.str a) (rpl_strs l)
end FX
namespace FX
open PySem PySem.Spec L2

/-! ### the meanings, worked out by simp -/
section
variable {f h : Ev} {ρ : Rho}
@[simp] theorem x_run {np nl : Nat} {b : Sv} {cs : List Cell} : runD np nl b cs = if cs.length = np then finR cs (b (startR cs nl)) else .bad := rfl
@[simp] theorem x_start {cs : List Cell} {nl : Nat} : startR cs nl = cs.map argC ++ List.replicate nl .un := rfl
@[simp] theorem x_arg1 {p : Bool} {o : DO} : argC (.own p o) = .own true o := rfl
@[simp] theorem x_arg2 {d : D} : argC (.val d) = .val d := rfl
@[simp] theorem x_arg3 : argC .un = .un := rfl
@[simp] theorem x_back0 {i : Nat} : backR [] i ρ = some [] := rfl
@[simp] theorem x_back1 {c : Cell} {cs : List Cell} {i : Nat} : backR (c :: cs) i ρ = match backC c ρ[i]?, backR cs (i + 1) ρ with | some c', some cs' => some (c' :: cs') | _, _ => none := rfl
@[simp] theorem x_bC1 {p : Bool} {o o' : DO} : backC (.own p o) (some (.own true o')) = some (.own p o') := rfl
@[simp] theorem x_bC2 {d : D} {c : Option Cell} : backC (.val d) c = some (.val d) := rfl
@[simp] theorem x_bC3 {c : Option Cell} : backC .un c = some .un := rfl
@[simp] theorem x_fin1 {cs : List Cell} {w : Wv} : finR cs (.rt w ρ) = match retW cs w ρ, backR cs 0 ρ with | some w', some cs' => .ok w' cs' | _, _ => .bad := rfl
@[simp] theorem x_fin2 {cs : List Cell} : finR cs (.nx ρ) = match backR cs 0 ρ with | some cs' => .ok (.val .non) cs' | none => .bad := rfl
@[simp] theorem x_fin3 {cs : List Cell} {e : Exn} : finR cs (.ex e ρ) = match backR cs 0 ρ with | some cs' => .ex e cs' | none => .bad := rfl
@[simp] theorem x_ret1 {cs : List Cell} {d : D} : retW cs (.val d) ρ = some (.val d) := rfl
@[simp] theorem x_ret2 {cs : List Cell} {o : DO} : retW cs (.new o) ρ = some (.new o) := rfl
@[simp] theorem x_ret3 {cs : List Cell} {i : Nat} : retW cs (.bor i) ρ = match ρ[i]? with | some (.own false o) => some (.new o) | some (.own true _) => if isOwn cs[i]? then some (.bor i) else none | some (.val d) => some (.val d) | _ => none := rfl
@[simp] theorem x_own1 {p : Bool} {o : DO} : isOwn (some (.own p o)) = true := rfl
@[simp] theorem x_own2 {d : D} : isOwn (some (.val d)) = false := rfl
@[simp] theorem x_own3 : isOwn (some .un) = false := rfl
@[simp] theorem x_own4 : isOwn none = false := rfl
@[simp] theorem x_fz1 {d : D} : fzW (.val d) = some (.val d) := rfl
@[simp] theorem x_fz2 {i : Nat} : fzW (.bor i) = some (.bor i) := rfl
@[simp] theorem x_fz3 {l : List D} : fzW (.new (.lst l)) = some (.val (.lst l)) := rfl
@[simp] theorem x_bindG {β : Type} {k : Wv → Rho → Out β} : bindG f k ρ = match f ρ with | .ok w ρ' => (match fzW w with | some w' => k w' ρ' | none => .bad) | .ex e ρ' => .ex e ρ' | .bad => .bad := by unfold bindG; cases f ρ <;> rfl
@[simp] theorem x_bindS {k : Wv → Sv} : bindS f k ρ = match f ρ with | .ok w ρ' => (match fzW w with | some w' => k w' ρ' | none => .bad) | .ex e ρ' => .ex e ρ' | .bad => .bad := by unfold bindS; cases f ρ <;> rfl
@[simp] theorem x_bindN {k : Wv → Sv} : bindN f k ρ = match f ρ with | .ok w ρ' => k w ρ' | .ex e ρ' => .ex e ρ' | .bad => .bad := by unfold bindN; cases f ρ <;> rfl
@[simp] theorem x_cE {d : D} : cE d ρ = .ok (.val d) ρ := rfl
@[simp] theorem x_vE {i : Nat} : vE i ρ = match ρ[i]? with | some (.val d) => .ok (.val d) ρ | some (.own _ _) => .ok (.bor i) ρ | _ => .bad := by unfold vE; cases ρ[i]? with | none => rfl | some c => cases c <;> rfl
@[simp] theorem x_binE {s : D → D → Option Wv} : binE s f h ρ = bindG f (fun w1 => bindG h fun w2 => lift2 s w1 w2) ρ := rfl
@[simp] theorem x_unE {s : D → Option Wv} : unE s f ρ = bindG f (lift1 s) ρ := rfl
@[simp] theorem x_lift2 {s : D → D → Option Wv} {w1 w2 : Wv} : lift2 s w1 w2 ρ = match w1.get ρ, w2.get ρ with | some d1, some d2 => (match s d1 d2 with | some w => .ok w ρ | none => .bad) | _, _ => .bad := by unfold lift2; cases w1.get ρ <;> cases w2.get ρ <;> rfl
@[simp] theorem x_lift1 {s : D → Option Wv} {w : Wv} : lift1 s w ρ = match w.get ρ with | some d => (match s d with | some w => .ok w ρ | none => .bad) | none => .bad := by unfold lift1; cases w.get ρ <;> rfl
@[simp] theorem x_get1 {d : D} : Wv.get ρ (.val d) = some d := rfl
@[simp] theorem x_get2 {i : Nat} : Wv.get ρ (.bor i) = match ρ[i]? with | some (.own _ (.lst l)) => some (.lst l) | some (.val d) => some d | _ => none := rfl
@[simp] theorem x_get3 {l : List D} : Wv.get ρ (.new (.lst l)) = some (.lst l) := rfl
@[simp] theorem x_setF {i : Nat} : setF i f ρ = bindS f (fun w ρ => toNx (setW i w ρ)) ρ := rfl
@[simp] theorem x_setN {i : Nat} : setN i f ρ = bindN f (fun w ρ => toNx (setW i w ρ)) ρ := rfl
@[simp] theorem x_drop : dropS f ρ = bindN f (fun _ ρ => .nx ρ) ρ := rfl
@[simp] theorem x_retS : retS f ρ = bindN f (fun w ρ => .rt w ρ) ρ := rfl
@[simp] theorem x_retN : retN ρ = .rt (.val .non) ρ := rfl
@[simp] theorem x_nx : nxS ρ = .nx ρ := rfl
@[simp] theorem x_raise {x : Str} : raiseS x ρ = .ex ⟨x, none⟩ ρ := rfl
@[simp] theorem x_toNx1 : toNx (some ρ) = .nx ρ := rfl
@[simp] theorem x_toNx2 : toNx none = .bad := rfl
@[simp] theorem x_seq {a b : Sv} : seqS a b ρ = match a ρ with | .nx ρ' => b ρ' | o => o := by unfold seqS; cases a ρ <;> rfl
@[simp] theorem x_ifS {c : Tv} {a b : Sv} : ifS c a b ρ = match c ρ with | .ok k ρ' => if k then a ρ' else b ρ' | .ex e ρ' => .ex e ρ' | .bad => .bad := by unfold ifS bindTS; cases c ρ with | ok k ρ' => cases k <;> rfl | _ => rfl
@[simp] theorem x_valT : valT f ρ = match f ρ with | .ok (.val (.bl b)) ρ' => .ok b ρ' | .ex e ρ' => .ex e ρ' | _ => .bad := by
  unfold valT; cases f ρ with
  | ok w ρ' => cases w with
    | val d => cases d <;> rfl
    | _ => rfl
  | _ => rfl
@[simp] theorem x_bindT {β : Type} {c : Tv} {k : Bool → Rho → Out β} : bindT c k ρ = match c ρ with | .ok b ρ' => k b ρ' | .ex e ρ' => .ex e ρ' | .bad => .bad := by unfold bindT; cases c ρ <;> rfl
@[simp] theorem x_okT {b : Bool} : okT b ρ = .ok b ρ := rfl
@[simp] theorem x_andT {a b : Tv} : andT a b ρ = bindT a (fun k => if k then b else okT false) ρ := rfl
@[simp] theorem x_orT {a b : Tv} : orT a b ρ = bindT a (fun k => if k then okT true else b) ρ := rfl
@[simp] theorem x_notT {a : Tv} : notT a ρ = bindT a (fun k => okT (!k)) ρ := rfl
@[simp] theorem x_andE : andE f h ρ = bindG f (blE fun b => if b then h else cE (.bl false)) ρ := rfl
@[simp] theorem x_orE : orE f h ρ = bindG f (blE fun b => if b then cE (.bl true) else h) ρ := rfl
@[simp] theorem x_notE : notE f ρ = bindG f (blE fun b => cE (.bl (!b))) ρ := rfl
@[simp] theorem x_blE {k : Bool → Ev} {b : Bool} : blE k (.val (.bl b)) = k b := rfl
@[simp] theorem x_ifE {c : Tv} : ifE c f h ρ = bindT c (fun b => if b then f else h) ρ := rfl
@[simp] theorem x_nilA : nilA ρ = .ok [] ρ := rfl
@[simp] theorem x_consA {fs : Av} : consA f fs ρ = bindG f (fun w => fun ρ => match fs ρ with | .ok ws ρ' => .ok (w :: ws) ρ' | .ex e ρ' => .ex e ρ' | .bad => .bad) ρ := by
  unfold consA; congr 1
@[simp] theorem x_bindA {β : Type} {fs : Av} {k : List Wv → Rho → Out β} : bindA fs k ρ = match fs ρ with | .ok ws ρ' => k ws ρ' | .ex e ρ' => .ex e ρ' | .bad => .bad := by unfold bindA; cases fs ρ <;> rfl
@[simp] theorem x_grab1 {d : D} : grab (.val d) ρ = some (d, ρ) := rfl
@[simp] theorem x_grab2 {i : Nat} : grab (.bor i) ρ = match ρ[i]? with | some (.own false (.lst l)) => some (.lst l, ρ.set i (.val (.lst l))) | some (.val d) => some (d, ρ) | _ => none := rfl
@[simp] theorem x_grabs0 : grabs [] ρ = some ([], ρ) := rfl
@[simp] theorem x_grabs1 {w : Wv} {ws : List Wv} : grabs (w :: ws) ρ = match grab w ρ with | some (d, ρ1) => (match grabs ws ρ1 with | some (ds, ρ2) => some (d :: ds, ρ2) | none => none) | none => none := rfl
@[simp] theorem x_tupE {fs : Av} : tupE fs ρ = bindA fs (fun ws ρ => if ws.length ≤ sizeLine then (match grabs ws ρ with | some (ds, ρ') => .ok (.val (.tup ds)) ρ' | none => .bad) else .bad) ρ := rfl
@[simp] theorem x_lstE {fs : Av} : lstE fs ρ = bindA fs (fun ws ρ => if ws.length ≤ sizeLine then (match grabs ws ρ with | some (ds, ρ') => .ok (.new (.lst ds)) ρ' | none => .bad) else .bad) ρ := rfl
@[simp] theorem x_callF {m : Ev} {fs : Av} : callF m fs ρ = bindA fs (callC m) ρ := rfl
@[simp] theorem x_callC {m : Ev} {ws : List Wv} : callC m ws ρ = match cellsOf ρ ws with
  | some cs => if (bors ρ ws).Nodup then (match m cs with
      | .ok w cs' => if shapeB cs cs' then (match resW ws w with | some w' => .ok w' (putB ws cs' ρ) | none => .bad) else .bad
      | .ex e cs' => if shapeB cs cs' then .ex e (putB ws cs' ρ) else .bad
      | .bad => .bad) else .bad
  | none => .bad := rfl
@[simp] theorem x_cells0 : cellsOf ρ [] = some [] := rfl
@[simp] theorem x_cells1 {w : Wv} {ws : List Wv} : cellsOf ρ (w :: ws) = match FX.cellOf ρ w, cellsOf ρ ws with | some c, some cs => some (c :: cs) | _, _ => none := rfl
@[simp] theorem x_cell1 {d : D} : FX.cellOf ρ (.val d) = some (.val d) := rfl
@[simp] theorem x_cell2 {i : Nat} : FX.cellOf ρ (.bor i) = match ρ[i]? with | some (.own p o) => some (.own p o) | some (.val d) => some (.val d) | _ => none := by
  show (match ρ[i]? with | some (.own p o) => some (Cell.own p o) | some (.val d) => some (.val d) | _ => none) = _
  cases ρ[i]? with | none => rfl | some c => cases c <;> rfl
@[simp] theorem x_bors0 : bors ρ [] = [] := rfl
@[simp] theorem x_bors1 {d : D} {ws : List Wv} : bors ρ (.val d :: ws) = bors ρ ws := rfl
@[simp] theorem x_bors2 {i : Nat} {ws : List Wv} : bors ρ (.bor i :: ws) = if isOwn ρ[i]? then i :: bors ρ ws else bors ρ ws := rfl
@[simp] theorem x_shape0 : shapeB [] [] = true := rfl
@[simp] theorem x_shape1 {p q : Bool} {o o' : DO} {cs cs' : List Cell} : shapeB (.own p o :: cs) (.own q o' :: cs') = (p == q && shapeB cs cs') := rfl
@[simp] theorem x_shape2 {d d' : D} {cs cs' : List Cell} : shapeB (.val d :: cs) (.val d' :: cs') = shapeB cs cs' := rfl
@[simp] theorem x_res1 {ws : List Wv} {d : D} : resW ws (.val d) = some (.val d) := rfl
@[simp] theorem x_res2 {ws : List Wv} {o : DO} : resW ws (.new o) = some (.new o) := rfl
@[simp] theorem x_put0 : putB [] [] ρ = ρ := rfl
@[simp] theorem x_put1 {i : Nat} {p : Bool} {o : DO} {ws : List Wv} {cs : List Cell} : putB (.bor i :: ws) (.own p o :: cs) ρ = putB ws cs (ρ.set i (.own p o)) := rfl
@[simp] theorem x_put2 {d : D} {c : Cell} {ws : List Wv} {cs : List Cell} : putB (.val d :: ws) (c :: cs) ρ = putB ws cs ρ := by cases c <;> rfl
@[simp] theorem x_put3 {i : Nat} {d : D} {ws : List Wv} {cs : List Cell} : putB (.bor i :: ws) (.val d :: cs) ρ = putB ws cs ρ := rfl
@[simp] theorem x_blt {s : List D → Option Wv} {fs : Av} : bltE s fs ρ = bindA fs (liftL s) ρ := rfl
@[simp] theorem x_liftL {s : List D → Option Wv} {ws : List Wv} : liftL s ws ρ = match getsD ρ ws with | some ds => (match s ds with | some w => .ok w ρ | none => .bad) | none => .bad := by
  unfold liftL; cases getsD ρ ws <;> rfl
@[simp] theorem x_gets0 : getsD ρ [] = some [] := rfl
@[simp] theorem x_gets1 {w : Wv} {ws : List Wv} : getsD ρ (w :: ws) = match w.get ρ, getsD ρ ws with | some d, some ds => some (d :: ds) | _, _ => none := rfl
@[simp] theorem x_noO : noO ρ = .ok none ρ := rfl
@[simp] theorem x_slE {lo hi : Ov} : slE f lo hi ρ = bindG f (fun w => bindO lo fun l => bindO hi fun u => lift1 (fun d => slD d l u) w) ρ := rfl
@[simp] theorem x_bindO {β : Type} {o : Ov} {k : Option Int → Rho → Out β} : bindO o k ρ = match o ρ with | .ok x ρ' => k x ρ' | .ex e ρ' => .ex e ρ' | .bad => .bad := by unfold bindO; cases o ρ <;> rfl
@[simp] theorem x_intO : intO f ρ = bindG f (fun w ρ => match w with | .val (.int i) => .ok (some i) ρ | _ => .bad) ρ := by
  unfold intO; congr 1
@[simp] theorem x_gN {i : Nat} {d : D} : gN i d ρ = if canSet ρ i then some (ρ.set i (.val d)) else none := rfl
@[simp] theorem x_gT {ts : List Gv} {l : List D} : gT ts (.tup l) ρ = gNs ts l ρ := rfl
@[simp] theorem x_gNs0 : gNs [] [] ρ = some ρ := rfl
@[simp] theorem x_gNs1 {t : Gv} {ts : List Gv} {d : D} {l : List D} : gNs (t :: ts) (d :: l) ρ = (t d ρ).bind (gNs ts l) := rfl
@[simp] theorem x_for {fi : Iv} {gt : Gv} {b : Sv} : forS fi gt b ρ = match fi ρ with | .ok ds ρ' => forL gt b ds ρ' | .ex e ρ' => .ex e ρ' | .bad => .bad := by unfold forS; cases fi ρ <;> rfl
@[simp] theorem x_seqI : seqI f ρ = bindG f (fun w ρ => match grab w ρ with | some (d, ρ1) => (match d.walk with | some l => .ok l ρ1 | none => .bad) | none => .bad) ρ := rfl
@[simp] theorem x_forL0 {gt : Gv} {b : Sv} : forL gt b [] ρ = .nx ρ := rfl
theorem x_forL1 {gt : Gv} {b : Sv} {d : D} {ds : List D} : forL gt b (d :: ds) ρ = match gt d ρ with
    | some ρ1 => (match b ρ1 with
      | .nx ρ2 => forL gt b ds ρ2
      | .ct ρ2 => forL gt b ds ρ2
      | .bk ρ2 => .nx ρ2
      | o => o)
    | none => .bad := by
  show (match gt d ρ with | some ρ1 => _ | none => _) = _
  cases gt d ρ with
  | none => rfl
  | some ρ1 => cases b ρ1 <;> rfl
@[simp] theorem x_lcE {fi : Iv} {gt : Gv} {c : Tv} {vs : List Nat} : lcE fi gt c f vs ρ = match fi ρ with
  | .ok ds ρ1 => (match wipeR vs ρ1 with
    | some ρ2 => (match lcL gt c f vs ds [] ρ2 with | .ok acc ρ3 => .ok (.new (.lst acc)) ρ3 | _ => .bad)
    | none => .bad)
  | .ex e ρ' => .ex e ρ'
  | .bad => .bad := by unfold lcE; cases fi ρ <;> rfl
@[simp] theorem x_wipe0 : wipeR [] ρ = some ρ := rfl
@[simp] theorem x_wipe1 {v : Nat} {vs : List Nat} : wipeR (v :: vs) ρ = (wipeR vs ρ).bind fun ρ' => if canU ρ' v then some (ρ'.set v .un) else none := rfl
@[simp] theorem x_canU {v : Nat} : canU ρ v = !isOwn ρ[v]? := rfl
@[simp] theorem x_walkT {l : List D} : D.walk (.tup l) = some l := rfl
@[simp] theorem x_walkL {l : List D} : D.walk (.lst l) = some l := rfl
@[simp] theorem x_walkS {x : Str} : D.walk (.str x) = some (x.cps.toList.map fun c => .str ⟨#[c]⟩) := rfl
@[simp] theorem x_walkC {l : List Int} : D.walk (.scr l) = some (l.map .int) := rfl
@[simp] theorem x_seqT {l : List D} : D.seq (.tup l) = some l := rfl
@[simp] theorem x_seqL {l : List D} : D.seq (.lst l) = some l := rfl
@[simp] theorem x_chain {s s' : D → D → Option Wv} {k : Ev} : chainE s s' f h k ρ = bindG f (fun w1 => bindG h fun w2 ρ => match lift2 s w1 w2 ρ with
  | .ok (.val (.bl b)) ρ' => if b then bindG k (fun w3 => lift2 s' w2 w3) ρ' else .ok (.val (.bl false)) ρ'
  | _ => .bad) ρ := rfl
@[simp] theorem x_lawC {ns : List Str} : lawCallE ns f ρ = lawOut ns (f ρ) := rfl
end
/-- a cell that may be written -/
def canC : Option Cell → Bool
  | some (.own true _) => false
  | some _ => true
  | none => false
@[simp] theorem canC1 {d : D} : canC (some (.val d)) = true := rfl
@[simp] theorem canC2 : canC (some .un) = true := rfl
@[simp] theorem canC3 {o : DO} : canC (some (.own false o)) = true := rfl
@[simp] theorem canC4 {o : DO} : canC (some (.own true o)) = false := rfl
@[simp] theorem canC5 : canC none = false := rfl
@[simp] theorem x_canSet {ρ : Rho} {i : Nat} : canSet ρ i = canC ρ[i]? := by unfold canSet; cases ρ[i]? with | none => rfl | some c => cases c with | own p o => cases p <;> rfl | _ => rfl
@[simp] theorem x_setW1 {ρ : Rho} {i : Nat} {d : D} : setW i (.val d) ρ = if canSet ρ i then some (ρ.set i (.val d)) else none := rfl
@[simp] theorem x_tupS {f : Ev} {ts : List Gv} {ρ : Rho} : tupS f ts ρ = bindS f (fun w ρ => match w with | .val d => toNx (gT ts d ρ) | _ => .bad) ρ := rfl
@[simp] theorem x_setIxS {i : Nat} {fk f : Ev} {ρ : Rho} : setIxS i fk f ρ = bindS f (fun w ρ => if isOwnL ρ[i]? then setIx i fk (fun ρ' => .ok w ρ') ρ else .bad) ρ := rfl
@[simp] theorem x_isOwnL1 {p : Bool} {l : List D} : isOwnL (some (.own p (.lst l))) = true := rfl
@[simp] theorem x_setIx {i : Nat} {fk f : Ev} {ρ : Rho} : setIx i fk f ρ = bindS f (fun w => bindS fk fun wk ρ => match grab w ρ with
  | some (d, ρ1) => (match wk, ρ1[i]? with
    | .val (.int k), some (.own p (.lst l)) => (match ixN l.length k with
      | some j => .nx (ρ1.set i (.own p (.lst (l.set j d))))
      | none => .bad)
    | _, _ => .bad)
  | none => .bad) ρ := rfl
@[simp] theorem x_appSt {i : Nat} {f : Ev} {ρ : Rho} : appSt i f ρ = if isOwnL ρ[i]? then bindS f (fun w ρ => match grab w ρ with
  | some (d, ρ1) => (match ρ1[i]? with
    | some (.own p (.lst l)) => if l.length < sizeLine then .nx (ρ1.set i (.own p (.lst (l ++ [d])))) else .bad
    | _ => .bad)
  | none => .bad) ρ else .bad := rfl
@[simp] theorem x_ixN0 {n : Nat} : ixN n 0 = if 0 < n then some 0 else none := by unfold ixN; simp
@[simp] theorem x_ixN1 {n : Nat} : ixN n 1 = if 1 < n then some 1 else none := by
  unfold ixN
  by_cases h : 1 < n
  · have : (1 : Int) < n := by omega
    simp [h, this]
  · have : ¬ (1 : Int) < n := by omega
    simp [h, this]
@[simp] theorem x_rng1 {f : Ev} {ρ : Rho} : rng1 f ρ = bindG f (fun w ρ => match w with | .val (.int j) => if -(2 ^ 62) ≤ j ∧ j < 2 ^ 62 then .ok (intsD 0 j.toNat) ρ else .bad | _ => .bad) ρ := rfl
@[simp] theorem x_rng2 {f h : Ev} {ρ : Rho} : rng2 f h ρ = bindG f (fun w => bindG h fun u ρ => match w, u with
  | .val (.int i), .val (.int j) => if -(2 ^ 62) ≤ i ∧ i < 2 ^ 62 ∧ -(2 ^ 62) ≤ j ∧ j < 2 ^ 62 then .ok (intsD i (j - i).toNat) ρ else .bad
  | _, _ => .bad) ρ := rfl
theorem sIx_nn {n d k : Nat} : HT.sIx n d (some (k : Int)) = min k n := by
  exact HT.sIx_nat n d k
theorem x_cutTo {l : List D} {k : Nat} : cutD l none (some (k : Int)) = l.take k := by
  unfold cutD
  rw [sIx_nn]
  simp only [HT.sIx, List.drop_zero, Nat.sub_zero]
  exact (List.take_eq_take_iff.mpr (by simp))
theorem x_cutFrom {l : List D} {k : Nat} : cutD l (some (k : Int)) none = l.drop k := by
  unfold cutD
  rw [sIx_nn]
  simp only [HT.sIx]
  by_cases h : k ≤ l.length
  · rw [Nat.min_eq_left h, List.take_of_length_le (by simp)]
  · rw [Nat.min_eq_right (by omega), List.drop_of_length_le (Nat.le_refl l.length), List.drop_of_length_le (show l.length ≤ k by omega)]
    simp
theorem x_cutMid {l : List D} {i j : Nat} : cutD l (some (i : Int)) (some (j : Int)) = (l.drop i).take (j - i) := by
  unfold cutD
  rw [sIx_nn, sIx_nn]
  by_cases h : i ≤ l.length
  · rw [Nat.min_eq_left h]
    refine List.take_eq_take_iff.mpr ?_
    rw [List.length_drop]
    omega
  · rw [Nat.min_eq_right (show l.length ≤ i by omega), List.drop_of_length_le (Nat.le_refl l.length), List.drop_of_length_le (show l.length ≤ i by omega)]
    simp
@[simp] theorem x_size : sizeLine = 16777216 := sizeLine_eq
/-! built-ins, operators -/
@[simp] theorem x_int1 {i : Int} : intD [.int i] = vI i := rfl
@[simp] theorem x_abs {i : Int} : absD [.int i] = vI (if i < 0 then -i else i) := rfl
@[simp] theorem x_len1 {l : List D} : lenD [.tup l] = vI l.length := rfl
@[simp] theorem x_len2 {l : List D} : lenD [.lst l] = vI l.length := rfl
@[simp] theorem x_len3 {l : List Int} : lenD [.scr l] = vI l.length := rfl
@[simp] theorem x_cmp {p : Int → Int → Bool} {i j : Int} : cmpD p (.int i) (.int j) = vB (p i j) := rfl
@[simp] theorem x_sub {i j : Int} : subD (.int i) (.int j) = vI (i - j) := rfl
@[simp] theorem x_neg {i : Int} : negD (.int i) = vI (-i) := rfl
@[simp] theorem x_add1 {i j : Int} : addD (.int i) (.int j) = vI (i + j) := rfl
@[simp] theorem x_add2 {a b : List D} : addD (.tup a) (.tup b) = if a.length + b.length ≤ sizeLine then some (.val (.tup (a ++ b))) else none := rfl
@[simp] theorem x_add3 {a b : List D} : addD (.lst a) (.lst b) = if a.length + b.length ≤ sizeLine then some (.new (.lst (a ++ b))) else none := rfl
@[simp] theorem x_add4 {x y : Str} : addD (.str x) (.str y) = if x.length + y.length ≤ sizeLine then some (.val (.str (x ++ y))) else none := rfl
@[simp] theorem x_mod {i j : Int} : modD (.int i) (.int j) = if 0 < j then vI (i % j) else none := rfl
@[simp] theorem x_fdiv {i j : Int} : fdivD (.int i) (.int j) = if 0 < j ∧ j.natAbs.log2 < 9000 then vI (i / j) else none := rfl
@[simp] theorem x_ix1 {l : List D} {i : Int} : ixD (.tup l) (.int i) = (atI l i).map .val := rfl
@[simp] theorem x_ix2 {l : List D} {i : Int} : ixD (.lst l) (.int i) = (atI l i).map .val := rfl
@[simp] theorem x_ix3 {l : List Int} {i : Int} : ixD (.scr l) (.int i) = (atI l i).map fun z => .val (.int z) := rfl
@[simp] theorem x_sl1 {l : List D} {lo hi : Option Int} : slD (.tup l) lo hi = some (.val (.tup (cutD l lo hi))) := rfl
@[simp] theorem x_sl2 {l : List D} {lo hi : Option Int} : slD (.lst l) lo hi = some (.new (.lst (cutD l lo hi))) := rfl
@[simp] theorem x_rv1 {l : List D} : rvD (.tup l) = some (.val (.tup l.reverse)) := rfl
@[simp] theorem x_isN {d : D} : isND d .non = vB (match d with | .non => true | _ => false) := by unfold isND; cases d <;> rfl
theorem x_atI {α : Type} {l : List α} {k : Nat} : atI l (k : Int) = l[k]? := by
  unfold atI ixN
  rw [if_pos (Int.natCast_nonneg k)]
  by_cases h : (k : Int) < l.length
  · rw [if_pos h]; simp
  · rw [if_neg h]
    have : l.length ≤ k := by omega
    simp [this]
@[simp] theorem x_at0 {α : Type} {l : List α} : atI l 0 = l[0]? := x_atI (k := 0)
@[simp] theorem x_at1 {α : Type} {l : List α} : atI l 1 = l[1]? := x_atI (k := 1)
@[simp] theorem x_at2 {α : Type} {l : List α} : atI l 2 = l[2]? := x_atI (k := 2)
/-! == of data -/
theorem eqD_of {d e : D} (h1 : d.ok 40 = true) (h2 : e.ok 40 = true) : eqD d e = vB (D.eqv d e) := by unfold eqD; rw [h1, h2]; simp
theorem neD_of {d e : D} (h1 : d.ok 40 = true) (h2 : e.ok 40 = true) : neD d e = vB (!D.eqv d e) := by unfold neD; rw [h1, h2]; simp
theorem eqD_int {i j : Int} : eqD (.int i) (.int j) = vB (decide (i = j)) := by
  unfold eqD
  simp only [D.scalar, D.eqv, D.py, PyData.eqv, Bool.true_or, if_true]
  congr 4
theorem neD_int {i j : Int} : neD (.int i) (.int j) = vB (!decide (i = j)) := by
  unfold neD
  simp only [D.scalar, D.eqv, D.py, PyData.eqv, Bool.true_or, if_true]
  congr 5
theorem eqD_str {x y : Str} : eqD (.str x) (.str y) = vB (decide (x = y)) := by
  unfold eqD
  simp only [D.scalar, D.eqv, D.py, PyData.eqv, Bool.true_or, if_true]
  congr 4
theorem neD_str {x y : Str} : neD (.str x) (.str y) = vB (!decide (x = y)) := by
  unfold neD
  simp only [D.scalar, D.eqv, D.py, PyData.eqv, Bool.true_or, if_true]
  congr 5
mutual
theorem eqv_rfl : ∀ (n : Nat) (d : D), d.ok n = true → PyData.eqv d.py d.py = true
  | _, .non, _ => by simp [D.py, PyData.eqv]
  | _, .bl b, _ => by simp [D.py, PyData.eqv]
  | _, .int i, _ => by simp [D.py, PyData.eqv]
  | _, .str x, _ => by simp [D.py, PyData.eqv]
  | _, .fn _, h => by simp [D.ok] at h
  | _, .scr _, h => by simp [D.ok] at h
  | _, .exc _ _, h => by simp [D.ok] at h
  | _, .clo _ _, h => by simp [D.ok] at h
  | 0, .tup _, h => by simp [D.ok] at h
  | 0, .lst _, h => by simp [D.ok] at h
  | n + 1, .tup l, h => by rw [D.py, PyData.eqv]; exact eqv_rflL n l (by simpa [D.ok] using h)
  | n + 1, .lst l, h => by rw [D.py, PyData.eqv]; exact eqv_rflL n l (by simpa [D.ok] using h)
theorem eqv_rflL : ∀ (n : Nat) (l : List D), D.okL n l = true → PyData.eqvAll (D.pyL l) (D.pyL l) = true
  | _, [], _ => by simp [D.pyL, PyData.eqvAll]
  | n, d :: l, h => by
    have h' : d.ok n = true ∧ D.okL n l = true := by simpa [D.okL] using h
    rw [D.pyL, PyData.eqvAll, eqv_rfl n d h'.1, eqv_rflL n l h'.2]
    rfl
end
theorem eqD_rfl {d : D} (h : d.ok 40 = true) : eqD d d = vB true := by rw [eqD_of h h]; unfold D.eqv; rw [eqv_rfl 40 d h]
theorem neD_rfl {d : D} (h : d.ok 40 = true) : neD d d = vB false := by rw [neD_of h h]; unfold D.eqv; rw [eqv_rfl 40 d h]; rfl
theorem eqv_tup {l m : List D} : D.eqv (.tup l) (.tup m) = PyData.eqvAll (D.pyL l) (D.pyL m) := by unfold D.eqv; rw [D.py, D.py, PyData.eqv]
theorem eqv_lst {l m : List D} : D.eqv (.lst l) (.lst m) = PyData.eqvAll (D.pyL l) (D.pyL m) := by unfold D.eqv; rw [D.py, D.py, PyData.eqv]
theorem eqvAll_cons {d e : D} {l m : List D} : PyData.eqvAll (D.pyL (d :: l)) (D.pyL (e :: m)) = (D.eqv d e && PyData.eqvAll (D.pyL l) (D.pyL m)) := by rw [D.pyL, D.pyL, PyData.eqvAll]; rfl
theorem eqvAll_nil : PyData.eqvAll (D.pyL []) (D.pyL []) = true := by rw [D.pyL, PyData.eqvAll]
theorem eqvAll_nc {e : D} {m : List D} : PyData.eqvAll (D.pyL []) (D.pyL (e :: m)) = false := by rw [D.pyL, D.pyL, PyData.eqvAll]
theorem eqvAll_cn {d : D} {l : List D} : PyData.eqvAll (D.pyL (d :: l)) (D.pyL []) = false := by rw [D.pyL, D.pyL, PyData.eqvAll]
theorem okL_all {n : Nat} : ∀ {l : List D}, D.okL n l = true ↔ ∀ d ∈ l, d.ok n = true
  | [] => by simp [D.okL]
  | a :: l => by simp [D.okL, okL_all (l := l)]
theorem ok_tup {n : Nat} {l : List D} : (D.tup l).ok (n + 1) = D.okL n l := by rw [D.ok]
theorem ok_lst {n : Nat} {l : List D} : (D.lst l).ok (n + 1) = D.okL n l := by rw [D.ok]
theorem log2_lt {n k : Nat} (hk : 0 < k) (h : n < 2 ^ k) : n.log2 < k := by
  by_cases h0 : n = 0
  · subst h0; simpa using hk
  · exact (Nat.log2_lt h0).mpr h
theorem x_mulI {i j : Int} : mulD (.int i) (.int j) = if i.natAbs.log2 + j.natAbs.log2 < 1000000 then vI (i * j) else none := rfl
/-! isinstance -/
@[simp] theorem is_int_non  : isiD "int" .non = vB false := by unfold isiD tyD; exact congrArg (Option.map _) (by decide +kernel : kitB _ _ = some false)
@[simp] theorem is_int_bl {b : Bool} : isiD "int" (.bl b) = vB true := by unfold isiD tyD; exact congrArg (Option.map _) (by decide +kernel : kitB _ _ = some true)
@[simp] theorem is_int_int {i : Int} : isiD "int" (.int i) = vB true := by unfold isiD tyD; exact congrArg (Option.map _) (by decide +kernel : kitB _ _ = some true)
@[simp] theorem is_int_str {x : Str} : isiD "int" (.str x) = vB false := by unfold isiD tyD; exact congrArg (Option.map _) (by decide +kernel : kitB _ _ = some false)
@[simp] theorem is_int_tup {l : List D} : isiD "int" (.tup l) = vB false := by unfold isiD tyD; exact congrArg (Option.map _) (by decide +kernel : kitB _ _ = some false)
@[simp] theorem is_int_lst {l : List D} : isiD "int" (.lst l) = vB false := by unfold isiD tyD; exact congrArg (Option.map _) (by decide +kernel : kitB _ _ = some false)
@[simp] theorem is_bool_non  : isiD "bool" .non = vB false := by unfold isiD tyD; exact congrArg (Option.map _) (by decide +kernel : kitB _ _ = some false)
@[simp] theorem is_bool_bl {b : Bool} : isiD "bool" (.bl b) = vB true := by unfold isiD tyD; exact congrArg (Option.map _) (by decide +kernel : kitB _ _ = some true)
@[simp] theorem is_bool_int {i : Int} : isiD "bool" (.int i) = vB false := by unfold isiD tyD; exact congrArg (Option.map _) (by decide +kernel : kitB _ _ = some false)
@[simp] theorem is_bool_str {x : Str} : isiD "bool" (.str x) = vB false := by unfold isiD tyD; exact congrArg (Option.map _) (by decide +kernel : kitB _ _ = some false)
@[simp] theorem is_bool_tup {l : List D} : isiD "bool" (.tup l) = vB false := by unfold isiD tyD; exact congrArg (Option.map _) (by decide +kernel : kitB _ _ = some false)
@[simp] theorem is_bool_lst {l : List D} : isiD "bool" (.lst l) = vB false := by unfold isiD tyD; exact congrArg (Option.map _) (by decide +kernel : kitB _ _ = some false)
@[simp] theorem is_str_non  : isiD "str" .non = vB false := by unfold isiD tyD; exact congrArg (Option.map _) (by decide +kernel : kitB _ _ = some false)
@[simp] theorem is_str_bl {b : Bool} : isiD "str" (.bl b) = vB false := by unfold isiD tyD; exact congrArg (Option.map _) (by decide +kernel : kitB _ _ = some false)
@[simp] theorem is_str_int {i : Int} : isiD "str" (.int i) = vB false := by unfold isiD tyD; exact congrArg (Option.map _) (by decide +kernel : kitB _ _ = some false)
@[simp] theorem is_str_str {x : Str} : isiD "str" (.str x) = vB true := by unfold isiD tyD; exact congrArg (Option.map _) (by decide +kernel : kitB _ _ = some true)
@[simp] theorem is_str_tup {l : List D} : isiD "str" (.tup l) = vB false := by unfold isiD tyD; exact congrArg (Option.map _) (by decide +kernel : kitB _ _ = some false)
@[simp] theorem is_str_lst {l : List D} : isiD "str" (.lst l) = vB false := by unfold isiD tyD; exact congrArg (Option.map _) (by decide +kernel : kitB _ _ = some false)
@[simp] theorem is_tuple_non  : isiD "tuple" .non = vB false := by unfold isiD tyD; exact congrArg (Option.map _) (by decide +kernel : kitB _ _ = some false)
@[simp] theorem is_tuple_bl {b : Bool} : isiD "tuple" (.bl b) = vB false := by unfold isiD tyD; exact congrArg (Option.map _) (by decide +kernel : kitB _ _ = some false)
@[simp] theorem is_tuple_int {i : Int} : isiD "tuple" (.int i) = vB false := by unfold isiD tyD; exact congrArg (Option.map _) (by decide +kernel : kitB _ _ = some false)
@[simp] theorem is_tuple_str {x : Str} : isiD "tuple" (.str x) = vB false := by unfold isiD tyD; exact congrArg (Option.map _) (by decide +kernel : kitB _ _ = some false)
@[simp] theorem is_tuple_tup {l : List D} : isiD "tuple" (.tup l) = vB true := by unfold isiD tyD; exact congrArg (Option.map _) (by decide +kernel : kitB _ _ = some true)
@[simp] theorem is_tuple_lst {l : List D} : isiD "tuple" (.lst l) = vB false := by unfold isiD tyD; exact congrArg (Option.map _) (by decide +kernel : kitB _ _ = some false)
/-! a comprehension that maps -/
theorem lc_map {i : Nat} {f : Ev} {h : D → D} : ∀ (ds acc : List D) (ρ : Rho), ρ[i]? = some .un → (∀ d ∈ ds, f (ρ.set i (.val d)) = .ok (.val (h d)) (ρ.set i (.val d))) → acc.length + ds.length ≤ 16777216 →
    lcL (gN i) (okT true) f [i] ds acc ρ = .ok (acc ++ ds.map h) ρ
  | [], acc, ρ, _, _, _ => by simp [lcL]
  | d :: ds, acc, ρ, h0, hf, hl => by
    have hi : i < ρ.length := (List.getElem?_eq_some_iff.mp h0).1
    have e1 := hf d (List.mem_cons_self ..)
    have c1 : canSet ρ i = true := by rw [x_canSet, h0]; rfl
    have s1 : List.set ρ i .un = ρ := by
      apply List.ext_getElem?
      intro j
      by_cases hj : i = j
      · subst hj; rw [List.getElem?_set_self hi, h0]
      · rw [List.getElem?_set_ne hj]
    have w1 : wipeR [i] (ρ.set i (.val d)) = some ρ := by simp [List.getElem?_set_self hi, s1]
    have sz : acc.length < sizeLine := by rw [x_size]; simp at hl; omega
    have ih := lc_map (i := i) (f := f) (h := h) ds (acc ++ [h d]) ρ h0 (fun e he => hf e (List.mem_cons_of_mem _ he)) (by simp at hl ⊢; omega)
    rw [lcL]
    simp only [x_gN, c1, if_true, x_okT, e1, x_fz1, Option.bind_some, x_grab1, sz, w1]
    rw [ih]
    simp
end FX
namespace FX
open PySem PySem.Spec PyProof.Rows L2

/-! ### dicts with text keys -/
def consAll : List (Str × Ev) → Av
  | [] => nilA
  | p :: l => consA p.2 (consAll l)
def dicE (l : List (Str × Ev)) : Ev := bindA (consAll l) fun ws ρ => match grabs ws ρ with
  | some (ds, ρ') => if l.length ≤ 15 ∧ (l.map (·.1)).Nodup then .ok (.new (.dic ((l.map fun p => (Sum.inr p.1 : Key)).zip ds))) ρ' else .bad
  | none => .bad
def trsD (g : G) (Z : WX) (l : List (Str × Ev)) : List (TE × TE) := l.map fun p => (tC (.str p.1), tE g Z p.2)
section
variable {g : G} {C : RC} {F F' H H' : Hp} {ρ ρ' : Rho} {σ σ' : St} {Z : WX} {X : Cx} {pos : Pos}
abbrev FD (g : G) (X : Cx) (Z : WX) (pos : Pos) (ks : List (Option Expr)) (vs : List Expr) (l : List (Str × Ev)) : Prop := PPs X pos ks vs (trsD g Z l)
theorem fd_nil : FD g X Z pos [] [] [] := pps_nil
theorem fd_cons {x : Str} {j : Nat} {p : Pos} {v : Expr} {f : Ev} {ks : List (Option Expr)} {vs : List Expr} {l : List (Str × Ev)} (h : FE g X Z v f) (r : FD g X Z pos ks vs l) : FD g X Z pos (some (.Constant (.str x) j p) :: ks) (v :: vs) ((x, f) :: l) := pps_cons pe_str h r
theorem tPairs_mono : ∀ {trs : List (TE × TE)} {σ : St} {H : Hp} {Q Q' : List (V × V) → Hp → Prop}, (∀ {t : TE × TE}, t ∈ trs → (∃ x, t.1 = tC x) ∧ ∃ f, t.2 = tE g Z f) → tPairs trs σ H Q → (∀ ps H', Q ps H' → Q' ps H') → tPairs trs σ H Q'
  | [], σ, H, Q, Q', _, h, i => i _ _ h
  | (a, b) :: r, σ, H, Q, Q', ht, h, i => by
    obtain ⟨⟨x, ea⟩, f, eb⟩ := ht (List.mem_cons_self ..)
    simp only at ea eb
    subst ea eb
    obtain ⟨C, F, ρ, R, P⟩ := h
    refine ⟨C, F, ρ, R, ?_⟩
    cases e : f ρ with
    | bad => rw [e] at P; exact P
    | ex y ρ' => rw [e] at P; exact P
    | ok w ρ' =>
      rw [e] at P
      exact fun F' H' s R' v r1 => tPairs_mono (fun hm => ht (List.mem_cons_of_mem _ hm)) (P F' H' s R' v r1) fun ps H2 q => i _ _ q
theorem trsD_mem {l : List (Str × Ev)} {t : TE × TE} (h : t ∈ trsD g Z l) : (∃ x, t.1 = tC x) ∧ ∃ f, t.2 = tE g Z f := by
  obtain ⟨p, _, rfl⟩ := List.mem_map.mp h
  exact ⟨⟨_, rfl⟩, _, rfl⟩
theorem pairs_use : ∀ {l : List (Str × Ev)} {σ : St} {H : Hp} {Q : List V → Hp → Prop}, tA g Z (consAll l) σ H Q → tPairs (trsD g Z l) σ H fun ps H2 => ∃ vs, vs.length = l.length ∧ ps = ((l.map fun p => V.str p.1).zip vs) ∧ Q vs H2
  | [], σ, H, Q, ⟨C, F, ρ, R, P⟩ => ⟨[], rfl, rfl, P F H (Same.refl F) R [] .nil rfl⟩
  | (x, f) :: l, σ, H, Q, ⟨C, F, ρ, R, P⟩ => by
    show tC (.str x) σ H fun y H1 => tE g Z f σ H1 fun v H2 => _
    refine post_bind R P fun F1 H1 ρ1 w v s1 R1 r1 n1 P1 => ?_
    have h : tA g Z (consAll l) σ H1 fun vs H2 => Q (v :: vs) H2 := by
      refine ⟨C, F1, ρ1, R1, ?_⟩
      cases e1 : consAll l ρ1 with
      | bad => rw [e1] at P1; exact P1
      | ex x ρ' => rw [e1] at P1; exact P1
      | ok ws ρ' =>
        rw [e1] at P1
        exact fun F' H' s R' vs rs n => P1 F' H' s R' (v :: vs) (.cons (r1.mono s n1) rs) (by simp [n1, n])
    have q := pairs_use h
    exact tPairs_mono trsD_mem q fun ps H2 ⟨vs, h1, h2, h3⟩ => ⟨v :: vs, by simp [h1], by rw [h2]; rfl, h3⟩
theorem merge_nodup : ∀ (more acc : List (Key × V)), (acc ++ more).map (·.1) |>.Nodup → mergeK acc more = acc ++ more
  | [], acc, _ => by simp [mergeK]
  | p :: r, acc, h => by
    have hp : valV acc p.1 = none := by
      unfold valV
      rw [Option.map_eq_none_iff, List.find?_eq_none]
      intro q hq e
      simp only [decide_eq_true_eq] at e
      rw [List.map_append, List.map_cons, List.nodup_append] at h
      exact h.2.2 q.1 (List.mem_map.mpr ⟨q, hq, rfl⟩) p.1 (List.mem_cons_self ..) e
    have e : mergeK acc (p :: r) = mergeK (acc ++ [p]) r := by
      show mergeK (putK acc p.1 p.2) r = _
      rw [putK_new p.2 hp]
    rw [e, merge_nodup r (acc ++ [p]) (by simpa using h)]
    simp
theorem zip_kV : ∀ {l : List (Str × Ev)} {vs : List V}, (l.map fun p => V.str p.1).zip vs = ((l.map fun p => (Sum.inr p.1 : Key)).zip vs).map (fun kv => (kV kv.1, kv.2))
  | [], _ => rfl
  | p :: l, [] => rfl
  | p :: l, v :: vs => by
    simp only [List.map_cons, List.zip_cons_cons]
    rw [zip_kV]
    rfl
theorem zip_keys : ∀ {l : List (Str × Ev)} {vs : List V}, vs.length = l.length → ((l.map fun p => (Sum.inr p.1 : Key)).zip vs).map (·.1) = (l.map (·.1)).map Sum.inr
  | [], _, _ => rfl
  | p :: l, [], h => by simp at h
  | p :: l, v :: vs, h => by
    simp only [List.map_cons, List.zip_cons_cons]
    rw [zip_keys (by simpa using h)]
theorem _root_.List.Nodup.map_inr : ∀ {l : List Str}, l.Nodup → (l.map (Sum.inr : Str → Key)).Nodup := fun {l} h => by
  rw [List.Nodup, List.pairwise_map]
  exact List.Pairwise.imp (fun hn e => hn (Sum.inr.inj e)) h
/-- one dict is changed that is ours alone -/
theorem Rel.pokeD (R : Rel g C F H ρ σ) {p : Addr} {vs ws : List (Key × V)} (h : H p = some (.dK vs)) (nF : F p = Option.none) (nB : C.B p = Option.none) (nO : ∀ i : Nat, isOwn ρ[i]? = true → σ[i]? ≠ some (some (.ref p))) : Rel g C F (upd H p (.dK ws)) ρ σ where
  len := R.len
  sub := fun a u e => by rw [upd_ne (fun z => by rw [z, nF] at e; cases e)]; exact R.sub a u e
  subB := fun a u e => by rw [upd_ne (fun z => by rw [z, nB] at e; cases e)]; exact R.subB a u e
  grow := R.grow
  tab := by
    intro q hq
    obtain ⟨ps, e1, e2, e3⟩ := R.tab q hq
    refine ⟨ps, ?_, e2, fun pos cv hc => ?_⟩
    · rw [upd_ne (fun z => by rw [z, h] at e1; cases e1)]; exact e1
    · obtain ⟨c, f1, f2⟩ := e3 pos cv hc
      refine ⟨c, f1, ?_⟩
      rw [upd_ne (fun z => ?_)]
      · exact f2
      · rw [z, h] at f2; unfold LamX.CodeO at f2; cases f2
  noTF := R.noTF
  noTB := R.noTB
  val := R.val
  own := fun i q u e => by
    obtain ⟨a, h1, h2, h3, h4⟩ := R.own i q u e
    have ha : a ≠ p := fun z => nO i (by rw [e]; rfl) (by rw [h1, z])
    exact ⟨a, h1, h2.mono (Same.refl F) (upd_ne ha), h3, h4⟩
  inj := R.inj
  anc := R.anc
theorem zip_kv : ∀ {l : List (Str × Ev)} {ds : List D} {vs : List V}, RpL g F ds vs → RpKV g F ((l.map fun p => (Sum.inr p.1 : Key)).zip ds) ((l.map fun p => (Sum.inr p.1 : Key)).zip vs)
  | [], _, _, _ => .nil
  | p :: l, _, _, .nil => .nil
  | p :: l, _, _, .cons h r => .cons ⟨rfl, h⟩ (zip_kv r)
theorem dic_use {l : List (Str × Ev)} {Q : VK} (h : tE g Z (dicE l) σ H Q) : tDisp (trsD g Z l) σ H Q := by
  obtain ⟨C, F, ρ, R, P⟩ := h
  intro p hp
  have R1 : Rel g C F (upd H p (.dK [])) ρ σ := R.alloc hp
  have rn : RpW g C F (upd H p (.dK [])) ρ σ (.new (.dic [])) (.ref p) := ⟨p, rfl, ⟨[], upd_same, .nil⟩, none_of_same R.sub hp, none_of_same R.subB hp, R.newAt hp⟩
  have hB := none_of_same R.subB hp
  obtain ⟨o, ho, Rh⟩ := R1.hold rn
  rw [upd_same] at ho
  cases ho
  have key : tA g Z (consAll l) σ (upd H p (.dK [])) fun vs H2 => vs.length = l.length → (H2 p = some (.dK []) ∧ ∃ kvs : List (Key × V), ((l.map fun p => V.str p.1).zip vs) = kvs.map (fun kv => (kV kv.1, kv.2)) ∧ kvs.length ≤ 15 ∧ Q (.ref p) (upd H2 p (.dK (mergeK [] kvs)))) := by
    refine ⟨C.hold F p (.dK []), F, ρ, Rh, ?_⟩
    unfold dicE bindA at P
    cases e1 : consAll l ρ with
    | bad => simp only [e1] at P; exact P
    | ex x ρ' => simp only [e1] at P; exact fun F' H' c d s R' rx => P F' H' c d s (R1.unhold hB R') rx
    | ok ws ρ1 =>
      simp only [e1] at P
      intro F2 H2 s2 R2 vs rs nn hl
      cases e2 : grabs ws ρ1 with
      | none => simp only [e2] at P; exact P.elim
      | some q =>
        obtain ⟨ds, ρ2⟩ := q
        simp only [e2] at P
        by_cases hc : l.length ≤ 15 ∧ (l.map (·.1)).Nodup
        · rw [if_pos hc] at P
          obtain ⟨F3, s3, R3, r3⟩ := grabs_ok R2 rs nn e2
          refine ⟨R3.subB p _ upd_same, (l.map fun p => (Sum.inr p.1 : Key)).zip vs, ?_, by rw [List.length_zip, List.length_map]; omega, ?_⟩
          · exact zip_kV
          · rw [merge_nodup _ [] (by rw [List.nil_append, zip_keys hl]; exact hc.2.map_inr)]
            have hg := Rel.unhold R1 hB R3
            have hF3 : F3 p = none := by
              cases q : F3 p with
              | none => rfl
              | some v =>
                rcases R3.grow p v q with h | h
                · have h' : F p = some v := h
                  rw [none_of_same R.sub hp] at h'; cases h'
                · have h' : upd C.B p (.dK []) p = none := h
                  rw [upd_same] at h'; cases h'
            have hO : ∀ i : Nat, isOwn ρ2[i]? = true → σ[i]? ≠ some (some (.ref p)) := fun i hi e => by
              obtain ⟨_, _, b, _, b1, _, _, b4⟩ := R3.owns hi
              rw [e] at b1
              cases b1
              have b4' : upd C.B p (.dK []) p = none := b4
              rw [upd_same] at b4'
              cases b4'
            have R4 := hg.pokeD (ws := (l.map fun p => (Sum.inr p.1 : Key)).zip vs) (R3.subB p _ upd_same) hF3 hB hO
            exact P F3 _ (s2.trans s3) R4 (.ref p) ⟨p, rfl, ⟨_, upd_same, zip_kv r3⟩, hF3, hB, hO⟩
        · rw [if_neg hc] at P; exact P.elim
  refine tPairs_mono trsD_mem (pairs_use key) fun ps H2 ⟨vs, h1, h2, h3⟩ => ?_
  obtain ⟨q1, kvs, q2, q3, q4⟩ := h3 h1
  exact ⟨q1, kvs, h2.trans q2, q3, q4⟩
theorem fe_dic {ks : List (Option Expr)} {vs : List Expr} {l : List (Str × Ev)} (h : FD g X Z pos ks vs l) (hall : ks.all (·.isSome) = true := by rfl) (hl : ks.length = vs.length := by rfl) (h0 : ks ≠ [] := by exact fun z => nomatch z) (h15 : ks.length ≤ 15 := by decide) :
    FE g X Z (.Dict ks vs pos) (dicE l) := pe_imp (pe_disp h hall hl h0 h15) fun σ H Q q => dic_use q
/-! table['a'], table['b'] = (.., ..) and table.get(word, d) -/
def isOwnD : Option Cell → Bool
  | some (.own _ (.dic _)) => true
  | _ => false
def freeK (kvs : List (Key × D)) (x : Str) : Bool := kvs.all fun p => decide (p.1 ≠ Sum.inr x)
def putD2 (i : Nat) (x y : Str) (f : Ev) : Sv := bindS f fun w ρ => match w, ρ[i]? with
  | .val (.tup [d1, d2]), some (.own q (.dic kvs)) => if freeK kvs x = true ∧ freeK kvs y = true ∧ x ≠ y ∧ kvs.length ≤ 100 then .nx (ρ.set i (.own q (.dic (kvs ++ [(Sum.inr x, d1)] ++ [(Sum.inr y, d2)])))) else .bad
  | _, _ => .bad
def lookD (kvs : List (Key × D)) (x : Str) (d : D) : D := ((kvs.find? fun kv => decide (kv.1 = Sum.inr x)).map (·.2)).getD d
def getDE (i : Nat) (fk fd : Ev) : Ev := fun ρ => if isOwnD ρ[i]? then bindG fk (fun wk => bindG fd fun wd ρ => match wk, wd, ρ[i]? with
  | .val (.str x), .val d, some (.own _ (.dic kvs)) => .ok (.val (lookD kvs x d)) ρ
  | _, _, _ => .bad) ρ else .bad
theorem kv_free {kvs : List (Key × D)} {kws : List (Key × V)} {x : Str} (r : RpKV g F kvs kws) (h : freeK kvs x = true) : valV kws (Sum.inr x) = none := by
  induction r with
  | nil => rfl
  | @cons p q ps qs h1 t ih =>
    unfold freeK at h
    rw [List.all_cons, Bool.and_eq_true, decide_eq_true_eq] at h
    rw [valV_neg (by rw [← h1.1]; exact h.1)]
    exact ih h.2
theorem kv_len {kvs : List (Key × D)} {kws : List (Key × V)} (r : RpKV g F kvs kws) : kvs.length = kws.length := paired_length r
theorem kv_snoc {kvs : List (Key × D)} {kws : List (Key × V)} {k : Key} {d : D} {v : V} (r : RpKV g F kvs kws) (h : Rp g F d v) : RpKV g F (kvs ++ [(k, d)]) (kws ++ [(k, v)]) := by
  induction r with
  | nil => exact .cons ⟨rfl, h⟩ .nil
  | cons h1 t ih => exact .cons h1 ih
theorem kv_look {kvs : List (Key × D)} {kws : List (Key × V)} {x : Str} {d : D} {v : V} (r : RpKV g F kvs kws) (h : Rp g F d v) : Rp g F (lookD kvs x d) ((valV kws (Sum.inr x)).getD v) := by
  induction r with
  | nil => exact h
  | @cons p q ps qs h1 t ih =>
    by_cases e : p.1 = Sum.inr x
    · have e2 : q.1 = Sum.inr x := h1.1 ▸ e
      rw [valV_pos e2]
      simp only [lookD, List.find?_cons, e, decide_true, Option.map_some, Option.getD_some]
      exact h1.2
    · have e2 : ¬ q.1 = Sum.inr x := h1.1 ▸ e
      rw [valV_neg e2]
      simp only [lookD, List.find?_cons, e, decide_false]
      exact ih
theorem own_dict (R : Rel g C F H ρ σ) {i : Nat} (h : isOwnD ρ[i]? = true) : ∃ q l a vs, ρ[i]? = some (.own q (.dic l)) ∧ σ[i]? = some (some (.ref a)) ∧ H a = some (.dK vs) ∧ RpKV g F l vs := by
  unfold isOwnD at h
  split at h
  · rename_i q l e
    obtain ⟨a, h1, ⟨vs, h2, h3⟩, _⟩ := R.own _ _ _ e
    exact ⟨q, l, a, vs, e, h1, h2, h3⟩
  · cases h
theorem fs_putD2 {x y z : Str} {e : Expr} {f : Ev} {p1 p2 p3 q1 q2 q3 tpos : Pos} {k j1 j2 : Nat} (i : Nat) (hc : X.calm = true) (hu : X.A.units + 1 < cLine) (he : FE g X Z e f) (hN : X.N[i]? = some z := by rfl)
    (hv : Vis X.env.scope z := by first | exact Or.inl rfl | exact Or.inr (Or.inl rfl) | exact Or.inr (Or.inr rfl)) (hd : (z == ("__debug__" : Str)) = false := by decide) (hcd : (z == ("__classdict__" : Str)) = false := by decide) (hK : g.K = X.K := by rfl)
    (ha : ∀ v, assign (.Subscript (.Name z p1) (.Constant (.str x) j1 p2) p3) X.env v = (do
      let ov ← holding [v] (eval (.Name z p1) X.env)
      let iv ← holding [v, ov] (eval (.Constant (.str x) j1 p2) X.env)
      standAt p3
      holding [v, ov, iv] (setItem ov iv v)
      release [v, ov, iv] []) := by intro _; rfl)
    (hb : ∀ v, assign (.Subscript (.Name z q1) (.Constant (.str y) j2 q2) q3) X.env v = (do
      let ov ← holding [v] (eval (.Name z q1) X.env)
      let iv ← holding [v, ov] (eval (.Constant (.str y) j2 q2) X.env)
      standAt q3
      holding [v, ov, iv] (setItem ov iv v)
      release [v, ov, iv] []) := by intro _; rfl)
    (hn : (assignEach [.Subscript (.Name z p1) (.Constant (.str x) j1 p2) p3, .Subscript (.Name z q1) (.Constant (.str y) j2 q2) q3] X.env).length = 2 := by rfl)
    (hst : (assignEach [.Subscript (.Name z p1) (.Constant (.str x) j1 p2) p3, .Subscript (.Name z q1) (.Constant (.str y) j2 q2) q3] X.env).findIdx? (·.1) = none := by rfl)
    (g1 : (assignEach [.Subscript (.Name z p1) (.Constant (.str x) j1 p2) p3, .Subscript (.Name z q1) (.Constant (.str y) j2 q2) q3] X.env).map (·.2) = assign (.Subscript (.Name z p1) (.Constant (.str x) j1 p2) p3) X.env :: (assignEach [.Subscript (.Name z q1) (.Constant (.str y) j2 q2) q3] X.env).map (·.2) := by rfl)
    (g2 : (assignEach [.Subscript (.Name z q1) (.Constant (.str y) j2 q2) q3] X.env).map (·.2) = assign (.Subscript (.Name z q1) (.Constant (.str y) j2 q2) q3) X.env :: (assignEach [] X.env).map (·.2) := by rfl)
    (hs : swapsWithSole [.Tuple [.Subscript (.Name z p1) (.Constant (.str x) j1 p2) p3, .Subscript (.Name z q1) (.Constant (.str y) j2 q2) q3] k tpos] e pos.line X.env = pure false := by rfl)
    (hw : swappedStores [.Tuple [.Subscript (.Name z p1) (.Constant (.str x) j1 p2) p3, .Subscript (.Name z q1) (.Constant (.str y) j2 q2) q3] k tpos] e X.env = pure none := by rfl)
    (h1 : (assignEach [.Tuple [.Subscript (.Name z p1) (.Constant (.str x) j1 p2) p3, .Subscript (.Name z q1) (.Constant (.str y) j2 q2) q3] k tpos] X.env).map (·.2) = [assign (.Tuple [.Subscript (.Name z p1) (.Constant (.str x) j1 p2) p3, .Subscript (.Name z q1) (.Constant (.str y) j2 q2) q3] k tpos) X.env] := by rfl) :
    FS g X Z (.Assign [.Tuple [.Subscript (.Name z p1) (.Constant (.str x) j1 p2) p3, .Subscript (.Name z q1) (.Constant (.str y) j2 q2) q3] k tpos] e pos) (putD2 i x y f) :=
  ps_imp (ps_asg he (pg_tup hc (pgs_cons (pg_sub (pe_var hN hv hd hcd) pe_str (set_dict hu) ha) (pgs_cons (pg_sub (pe_var hN hv hd hcd) pe_str (set_dict hu) hb) pgs_nil g2) g1) hn hst) hs hw h1) fun N σ H ⟨C, F, ρ, R, P⟩ => postS_bind (Z' := Z) R P fun F1 H1 ρ1 w v s1 R1 r1 n1 P1 => by
    split at P1
    · rename_i d1 d2 q kvs e3
      split at P1
      · rename_i hcnd
        obtain ⟨c1, c2, c3, c4⟩ := hcnd
        cases r1 with
        | @tup l a vs t1 t2 =>
          cases t2 with | cons ra t2 =>
          cases t2 with | cons rb t2 =>
          cases t2
          rename_i v1 v2
          obtain ⟨b, o1, ⟨kws, o2, o3⟩, o4⟩ := R1.own _ _ _ e3
          have z1 := kv_len o3
          have sz : kws.length + 2 ≤ sizeLine := by rw [sizeLine_eq]; omega
          have w1 := R1.write (u' := .dic (kvs ++ [(Sum.inr x, d1)])) (o := .dK (kws ++ [(Sum.inr x, v1)])) e3 o1 (fun ps z => by cases z) ⟨_, upd_same, kv_snoc o3 ra⟩
          have hi : i < ρ1.length := (List.getElem?_eq_some_iff.mp e3).1
          have w2 := w1.write (u' := .dic (kvs ++ [(Sum.inr x, d1)] ++ [(Sum.inr y, d2)])) (o := .dK (kws ++ [(Sum.inr x, v1)] ++ [(Sum.inr y, v2)])) (List.getElem?_set_self hi) o1 (fun ps z => by cases z) ⟨_, upd_same, kv_snoc (kv_snoc o3 ra) rb⟩
          rw [List.set_set] at w2
          have f1 := kv_free o3 c1
          have f2 := kv_free (kv_snoc (k := Sum.inr x) o3 ra) (x := y) (by unfold freeK at c2 ⊢; rw [List.all_append, c2]; simp [c3])
          refine ⟨a, [v1, v2], rfl, ?_, rfl, v1, [v2], rfl, .ref b, o1, b, upd H1 b (.dK (putK kws (Sum.inr x) v1)), rfl, DPut.k (k := Sum.inr x) o2 (by omega), v2, [], rfl, .ref b, o1, b, _, rfl, DPut.k (k := Sum.inr y) upd_same (by have := length_putK kws (Sum.inr x : Key) v1; omega), rfl, ?_⟩
          · have q := sqT_same R1.sub t1
            rw [hK] at q
            exact q
          · rw [putK_new _ f1, putK_new _ f2]
            exact P1 F1 _ _ (Same.refl F1) w2
      · exact P1.elim
    · exact P1.elim
theorem fe_getD {z : Str} {e e2 : Expr} {fk fd : Ev} {p1 apos cpos : Pos} (i : Nat) (hu : X.A.units + 1 < cLine) (hk : FE g X Z e fk) (hf : FE g X Z e2 fd) (hN : X.N[i]? = some z := by rfl)
    (hv : Vis X.env.scope z := by first | exact Or.inl rfl | exact Or.inr (Or.inl rfl) | exact Or.inr (Or.inr rfl)) (hd : (z == ("__debug__" : Str)) = false := by decide) (hcd : (z == ("__classdict__" : Str)) = false := by decide)
    (m : M2 X (.Name z p1) "get" apos e e2 cpos := by exact ⟨rfl, rfl, rfl, rfl⟩) :
    FE g X Z (.Call (.Attribute (.Name z p1) "get" apos) [e, e2] [] cpos) (getDE i fk fd) := pe_imp (pe_dget2 hu (pe_var hN hv hd hcd) hk hf m) fun σ H Q ⟨C, F, ρ, R, P⟩ => by
  unfold getDE at P
  split at P
  · rename_i ho
    obtain ⟨q, l, a, vs, e1, h1, h2, h3⟩ := own_dict R ho
    refine ⟨.ref a, h1, a, rfl, .inl ⟨vs, .inl h2⟩, ?_⟩
    refine post_bind R P fun F1 H1 ρ1 wk vk s1 R1 r1 n1 P1 => ?_
    refine post_bind R1 P1 fun F2 H2 ρ2 wd vd s2 R2 r2 n2 P2 => ?_
    split at P2
    · rename_i x d q2 kvs e3
      obtain ⟨b, o1, ⟨kws, o2, o3⟩, o4⟩ := R2.own _ _ _ e3
      rw [h1] at o1
      cases o1
      cases r1
      refine ⟨_, DGet.k (k := Sum.inr x) o2, P2 F2 H2 (Same.refl F2) R2 _ (kv_look o3 r2)⟩
    · exact P2.elim
  · exact P.elim
end
end FX
namespace FX
open PySem PySem.Spec PyProof.Rows L2

/-! ### q.index(text) -/
def Pl (K : PySem.W.Frag) (p : Addr) : Prop := ∃ o : Obj, K.lookup p = some o ∧ o.cls = .type "tuple" ∧ o.dict = none
def IsQ (K : PySem.W.Frag) (H : Hp) (p : Addr) (ys : List Str) : Prop := (SqT K H p (ys.map V.str) ∧ Pl K p) ∨ SqL K H p (ys.map V.str)
def tIdx (K : PySem.W.Frag) (to te : TE) : TE := fun σ H Q => to σ H fun x H1 => ∃ (p : Addr) (ys : List Str), x = .ref p ∧ IsQ K H1 p ys ∧
  te σ H1 fun y H2 => ∃ k : Str, y = .str k ∧ k ∈ ys ∧ IsQ K H2 p ys ∧ Q (.int (ys.idxOf k : Nat)) H2
theorem mt_index {X : Cx} {A : Around} {pins : List (Addr × Obj)} {s : Shared} {σ : St} {H : Hp} {p : Addr} {ys : List Str} {k : Str} {t : Tok} {Q : VK} (I : Inv X pins σ H s) (h : SqT X.K H p (ys.map V.str)) (hk : k ∈ ys) (q : Q (.int (ys.idxOf k : Nat)) H) :
    wpAny (model X.prog X.w) A (call (.builtin "tuple.index") [.ref p, .str k t]) (EP X pins σ Q) X.xe s := by
  obtain ⟨its, rv, tp, hz⟩ := I.tuple h
  exact PySem.SeqAt.tuple_index_strs tp rv.strs hk ⟨.int _, H, I.tok _, ⟨_, rfl⟩, q⟩
theorem mt_indexL {X : Cx} {A : Around} {pins : List (Addr × Obj)} {s : Shared} {σ : St} {H : Hp} {p : Addr} {ys : List Str} {k : Str} {t : Tok} {Q : VK} (I : Inv X pins σ H s) (h : SqL X.K H p (ys.map V.str)) (hk : k ∈ ys) (q : Q (.int (ys.idxOf k : Nat)) H) :
    wpAny (model X.prog X.w) A (call (.builtin "list.index") [.ref p, .str k t]) (EP X pins σ Q) X.xe s := by
  obtain ⟨its, rv, tp, hz⟩ := I.list h
  exact PySem.SeqAt.list_index_strs tp.isList rv.strs (by rw [List.length_map] at hz; exact hz) hk ⟨.int _, H, I.tok _, ⟨_, rfl⟩, q⟩
theorem pe_index {X : Cx} {o e : Expr} {to te : TE} {apos cpos : Pos} (ho : PE X o to) (he : PE X e te)
    (hbase : attributeBase o "index" X.env (eval o X.env) = eval o X.env := by rfl)
    (hfew : ((backTo cpos (starEach [e] X.env)).all (fun x => !x.1) && (backToKw cpos (keywordEach [] X.env)).all (fun x => x.1.isSome)
      && decide ([e].length + ([] : List Keyword).length + (if ([] : List Keyword).isEmpty then 0 else 1) < 30)) = true := by rfl)
    (hline : (apos.endLine == cpos.line) = true := by rfl) (hs : backTo cpos (starEach [e] X.env) = [(false, eval e X.env)] := by rfl) :
    PE X (.Call (.Attribute o "index" apos) [e] [] cpos) (tIdx X.K to te) := by
  refine ⟨fun pins s σ H Q I h => ?_⟩
  refine wpAny_Call_method_late hbase hfew hline hs (thn (ho.run pins s σ H _ I h) fun v s1 ⟨x, H1, I1, r1, p, ys, ex, sq, q1⟩ => ?_)
  subst ex
  cases r1
  rcases sq with ⟨sq, o, hK, hc, hd⟩ | sq
  · refine ⟨"tuple", "tuple.index", PySem.F.plainAttrs_tuple, PySem.F.slot_tuple_index, PySem.F.type_tuple_index, ⟨o, I1.kIn p o hK, hc⟩, fun a e => by cases e; exact ⟨o, I1.kIn p o hK, hd⟩, ?_⟩
    refine Calls.callWith_builtin rfl (Calls.evalArgs_plain (Calls.spliced_cons (thn (he.run pins s1 σ H1 _ I1 q1) fun iv s2 ⟨y, H2, I2, ry, k, ey, hk, k1, q2⟩ => Calls.spliced_nil ?_)))
    subst ey
    obtain ⟨t, rfl⟩ := ry
    rcases k1 with ⟨k1, _⟩ | k1
    · exact mt_index I2 k1 hk q2
    · obtain ⟨its, rv, tp, hz⟩ := I2.list k1
      obtain ⟨oo, n, g1, g2, _⟩ := tp
      rw [I2.kIn p o hK] at g1
      cases g1
      rw [hc] at g2
      exact absurd (Value.type.inj g2) (by decide)
  · obtain ⟨its, rv, tp, hz⟩ := I1.list sq
    obtain ⟨o, n, g1, g2, g3, g4⟩ := tp
    refine ⟨"list", "list.index", PySem.F.plainAttrs_list, PySem.F.slot_list_index, PySem.F.type_list_index, ⟨o, g1, g2⟩, fun a e => by cases e; exact ⟨o, g1, g3⟩, ?_⟩
    refine Calls.callWith_builtin rfl (Calls.evalArgs_plain (Calls.spliced_cons (thn (he.run pins s1 σ H1 _ I1 q1) fun iv s2 ⟨y, H2, I2, ry, k, ey, hk, k1, q2⟩ => Calls.spliced_nil ?_)))
    subst ey
    obtain ⟨t, rfl⟩ := ry
    rcases k1 with ⟨_, o2, hK2, hc2, _⟩ | k1
    · have := I1.kIn p o2 hK2
      rw [g1] at this
      cases this
      rw [g2] at hc2
      exact absurd (Value.type.inj hc2) (by decide)
    · exact mt_indexL I2 k1 hk q2
def idxD (ys : List Str) : D → Option Wv
  | .str k => if k ∈ ys then vI (ys.idxOf k : Nat) else none
  | _ => none
def idxLE (fo fe : Ev) : Ev := bindG fo fun w => match w with
  | .val (.lst l) => (match asStrs l with
    | some ys => unE (idxD ys) fe
    | none => fun _ => .bad)
  | _ => fun _ => .bad
section
variable {g : G} {X : Cx} {Z : WX} {o e : Expr} {fo fe : Ev} {apos cpos p1 : Pos} {x : Str} {ys : List Str}
theorem fe_indexK (hg : Gl X x) (hm : g.mg x = some (.ref (He.ga g.K x))) (hq : ∀ F, SqT g.K F (He.ga g.K x) (ys.map V.str)) (hP : Pl g.K (He.ga g.K x)) (he : FE g X Z e fe) (hM : X.mg = g.mg := by rfl) (hK : X.K = g.K := by rfl) (hd : (x == ("__debug__" : Str)) = false := by decide)
    (hbase : attributeBase (.Name x p1) "index" X.env (eval (.Name x p1) X.env) = eval (.Name x p1) X.env := by rfl)
    (hfew : ((backTo cpos (starEach [e] X.env)).all (fun x => !x.1) && (backToKw cpos (keywordEach [] X.env)).all (fun x => x.1.isSome)
      && decide ([e].length + ([] : List Keyword).length + (if ([] : List Keyword).isEmpty then 0 else 1) < 30)) = true := by rfl)
    (hline : (apos.endLine == cpos.line) = true := by rfl) (hs : backTo cpos (starEach [e] X.env) = [(false, eval e X.env)] := by rfl) :
    FE g X Z (.Call (.Attribute (.Name x p1) "index" apos) [e] [] cpos) (unE (idxD ys) fe) :=
  pe_imp (pe_index (pe_glob hg (v := .ref (He.ga g.K x)) (by rw [hM]; exact hm) rfl hd) he hbase hfew hline hs) fun σ H Q ⟨C, F, ρ, R, P⟩ => by
    refine ⟨_, ys, rfl, .inl ⟨by rw [hK]; exact hq H, by rw [hK]; exact hP⟩, ?_⟩
    refine post_bind R P fun F1 H1 ρ1 w v s1 R1 r1 n1 P1 => ?_
    refine lift1_use (r := fun v H' Q => ∃ k : Str, v = .str k ∧ k ∈ ys ∧ IsQ X.K H' (He.ga g.K x) ys ∧ Q (.int (ys.idxOf k : Nat)) H') ?_ R1 r1 P1
    intro C F H ρ σ d v1 w Q R r1 e P
    cases d <;> first | (cases e; done) | skip
    rename_i k
    simp only [idxD] at e
    split at e
    · rename_i hk
      cases e; cases r1
      exact ⟨k, rfl, hk, .inl ⟨by rw [hK]; exact hq H, by rw [hK]; exact hP⟩, P F H (Same.refl F) R _ (.int _)⟩
    · cases e
theorem fe_indexL (ho : FE g X Z o fo) (he : FE g X Z e fe) (hK : X.K = g.K := by rfl)
    (hbase : attributeBase o "index" X.env (eval o X.env) = eval o X.env := by rfl)
    (hfew : ((backTo cpos (starEach [e] X.env)).all (fun x => !x.1) && (backToKw cpos (keywordEach [] X.env)).all (fun x => x.1.isSome)
      && decide ([e].length + ([] : List Keyword).length + (if ([] : List Keyword).isEmpty then 0 else 1) < 30)) = true := by rfl)
    (hline : (apos.endLine == cpos.line) = true := by rfl) (hs : backTo cpos (starEach [e] X.env) = [(false, eval e X.env)] := by rfl) :
    FE g X Z (.Call (.Attribute o "index" apos) [e] [] cpos) (idxLE fo fe) :=
  pe_imp (pe_index ho he hbase hfew hline hs) fun σ H Q ⟨C, F, ρ, R, P⟩ => by
    refine post_bind R P fun F1 H1 ρ1 w v s1 R1 r1 n1 P1 => ?_
    cases w with
    | bor i => exact P1.elim
    | new i => exact P1.elim
    | val d =>
      cases d <;> first | exact P1.elim | skip
      rename_i l
      simp only at P1
      cases hys : asStrs l with
      | none => simp only [hys] at P1; exact P1.elim
      | some ys =>
        simp only [hys] at P1
        cases r1 with
        | @lst _ a vs h1 h2 =>
          have ev := asStrs_rp h2 hys
          subst ev
          refine ⟨a, ys, rfl, .inr (.inl (.inl (R1.sub _ _ h1))), ?_⟩
          refine post_bind R1 P1 fun F2 H2 ρ2 w2 v2 s2 R2 r2 n2 P2 => ?_
          refine lift1_use (r := fun v H' Q => ∃ k : Str, v = .str k ∧ k ∈ ys ∧ IsQ X.K H2 a ys ∧ Q (.int (ys.idxOf k : Nat)) H') ?_ R2 r2 P2
          intro C F H ρ σ d v1 w Q R r1 e P
          cases d <;> first | (cases e; done) | skip
          rename_i k
          simp only [idxD] at e
          split at e
          · rename_i hk
            cases e; cases r1
            exact ⟨k, rfl, hk, .inr (.inl (.inl (R2.sub _ _ (s2 _ _ h1)))), P F H (Same.refl F) R _ (.int _)⟩
          · cases e
end
end FX
namespace FX
open PySem PySem.Spec PyProof.Rows L2

/-! ### enumerate over a list -/
def enumL (l : List D) : List D := l.mapIdx fun i d => .tup [.int (i : Nat), d]
def enumI (f : Ev) : Iv := bindG f fun w ρ => match grab w ρ with
  | some (.lst l, ρ') => .ok (enumL l) ρ'
  | _ => .bad
section
variable {g : G} {C : RC} {F H : Hp} {ρ ρ' : Rho} {σ : St} {Z : WX} {X : Cx} {e : Expr} {f : Ev} {p pos tpos : Pos} {elts : List Expr} {kk : Nat}
theorem jok_enum {a : Addr} {l : List D} {xs : List V} (h1 : SqL g.K F a xs) (r1 : RpL g F l xs) : JOk g F (Ite g.K a) (enumL l) := fun C F' H' ρ σ s R => by
  have q1 := R.sub.seq (s.seq h1)
  refine ⟨fun i d e => ?_, fun i hi => ⟨xs, q1, by rw [enumL, List.length_mapIdx] at hi; rw [← r1.length]; exact hi⟩⟩
  rw [enumL, List.getElem?_mapIdx] at e
  obtain ⟨da, e1, rfl⟩ := Option.map_eq_some_iff.mp e
  obtain ⟨x, ex, rx⟩ := r1.get e1
  refine ⟨⟨xs, x, q1, ex⟩, fun v H2 ⟨T, x2, ev, nT, eH, f1⟩ => ?_⟩
  have := f1 xs q1
  rw [ex] at this; cases this
  subst ev eH
  obtain ⟨F2, s2, R2, h3⟩ := R.newTup (l := [.int (i : Nat), da]) nT (.cons (.int _) (.cons (rx.mono s) .nil))
  exact ⟨F2, s2, R2, h3⟩
theorem fi_enum (he : FE g X Z e f) (hg : Gl X "enumerate" := by rfl) (hm : X.mg "enumerate" = none := by assumption) (hK : g.K = X.K := by rfl) (hs : starEach [e] X.env = [(false, eval e X.env)] := by rfl) :
    FI g X Z (.Tuple elts kk tpos) (.Call (.Name "enumerate" p) [e] [] pos) (enumI f) := pi_imp (pi_enum hg hm (fa_cons he fa_nil hs) hs) fun σ H Q ⟨C, F, ρ, R, P⟩ => by
  refine ⟨C, F, ρ, R, ?_⟩
  unfold consA bindG
  unfold enumI bindG at P
  cases e1 : f ρ with
  | bad => rw [e1] at P; exact P
  | ex x ρ' => rw [e1] at P; exact P
  | ok w ρ1 =>
    simp only [e1] at P ⊢
    cases e2 : fzW w with
    | none => simp only [e2] at P ⊢; exact P
    | some w' =>
      simp only [e2] at P ⊢
      show postA g C F σ Z _ (.ok [w'] ρ1)
      intro F1 H1 s1 R1 vs rs n
      cases rs with | cons r1 rs =>
      cases rs
      cases e3 : grab w' ρ1 with
      | none => simp only [e3] at P; exact P.elim
      | some q =>
        obtain ⟨d, ρ2⟩ := q
        simp only [e3] at P
        obtain ⟨F2, s2, R2, r2⟩ := grab_ok R1 r1 e3
        cases d <;> first | exact P.elim | skip
        cases r2 with | lst h1 q1 =>
        rw [← hK]
        exact ⟨_, _, rfl, R2.sub.seq (.inl (.inl h1)), P F2 H1 (s1.trans s2) R2 _ (jok_enum (.inl (.inl h1)) q1)⟩
end
/-- a tuple of the top, plain -/
def plB (K : PySem.W.Frag) (x : Str) : Bool := match K.lookup (He.ga K x) with
  | some o => decide (o.cls = .type "tuple") && o.dict.isNone
  | none => false
theorem plB_ok {K : PySem.W.Frag} {x : Str} (h : plB K x = true) : Pl K (He.ga K x) := by
  unfold plB at h
  cases q : K.lookup (He.ga K x) with
  | none => rw [q] at h; cases h
  | some o =>
    rw [q] at h
    simp only [Bool.and_eq_true, decide_eq_true_eq] at h
    refine ⟨o, q, h.1, ?_⟩
    have := h.2
    cases e : o.dict with
    | none => rfl
    | some a => rw [e] at this; cases this
theorem un1 {u : Nat} (h : u + 64 < cLine) : u + 1 < cLine := by omega
end FX
namespace FX
open PySem PySem.Spec PyProof.Rows L2

/-! ### a call of a local name that holds one of several defs -/
def callV (i : Nat) (tab : List (Str × Ev)) (fs : Av) : Ev := fun ρ => match ρ[i]? with
  | some (.val (.fn n)) => (match tab.lookup n with | some m => callF m fs ρ | none => .bad)
  | _ => .bad
/-- the defs of a table, each of the same many arguments -/
structure FnT (g : G) (P : Program) (w : World) (base : Heap) (k np : Nat) (tab : List (Str × Ev)) : Prop where
  at_ : ∀ n m, tab.lookup n = some m → Fn g P w base k n np m
theorem fnT_nil {g : G} {P : Program} {w : World} {base : Heap} {k np : Nat} : FnT g P w base k np [] := ⟨fun n m h => by simp at h⟩
theorem fnT_cons {g : G} {P : Program} {w : World} {base : Heap} {k np : Nat} {tab : List (Str × Ev)} {x : Str} {m : Ev} (h : Fn g P w base k x np m) (t : FnT g P w base k np tab) : FnT g P w base k np ((x, m) :: tab) := ⟨fun n m' e => by
  rw [List.lookup_cons] at e
  split at e
  · rename_i q
    cases e
    have := eq_of_beq q
    subst this
    exact h
  · exact t.at_ n m' e⟩
section
variable {g : G} {X : Cx} {Z : WX} {z : Str} {k np : Nat} {e : Expr} {es : List Expr} {fs : Av} {p pos : Pos} {tab : List (Str × Ev)}
theorem fe_callV (i : Nat) {P : Program} {w : World} {base : Heap} {n : Nat} (h : FnT g P w base k np tab) (hr : Room k X.A) (tk : L2N.Takes X Z) (ha : FA g X Z (e :: es) fs) [hl : ALen fs n] (hnp : n = np := by rfl) (hN : X.N[i]? = some z := by rfl)
    (hv : Vis X.env.scope z := by first | exact Or.inl rfl | exact Or.inr (Or.inl rfl) | exact Or.inr (Or.inr rfl)) (hP : X.prog = P := by rfl) (hw : X.w = w := by rfl) (hb : X.base = base := by rfl) (hK : X.K = g.K := by rfl) (hM : X.mg = g.mg := by rfl)
    (hdb : (z == ("__debug__" : Str)) = false := by decide) (hcd : (z == ("__classdict__" : Str)) = false := by decide) (he : starEach (e :: es) X.env = (false, eval e X.env) :: starEach es X.env := by rfl) (hpl : (backTo pos (starEach es X.env)).any (·.1) = false := by rfl) :
    FE g X Z (.Call (.Name z p) (e :: es) [] pos) (callV i tab fs) := by
  refine ⟨fun pins s σ H Q I ⟨C, F, ρ, R, q⟩ => ?_⟩
  unfold callV at q
  split at q
  · rename_i x hx
    obtain ⟨v, hv1, hv2⟩ := R.val _ _ hx
    cases hv2 with
    | fn hg =>
      rename_i a
      split at q
      · rename_i m hm
        obtain ⟨f, fd, ps, h1, h2, h3, h4⟩ := (h.at_ x m hm).ex
        rw [h2] at hg
        cases hg
        subst hP hw hb
        rw [← hK, ← hM] at h1
        rw [← hK] at h3 h4
        subst hnp
        have q2 := callF_use hl.len ⟨C, F, ρ, R, q⟩
        refine wpAny_Call_Name_kw (thn ((pe_var (pos := p) hN hv hdb hcd).run pins s σ H (fun v H1 => v = .ref a ∧ H1 = H) I ⟨.ref a, hv1, rfl, rfl⟩) fun u s1 ⟨v, H1, I1, r1, q1⟩ => ?_)
        obtain ⟨rfl, rfl⟩ := q1
        cases r1
        refine PySem.W.callWith_K (h₀ := X.base) I.ok.mod.kin h3 (thn (ha.run pos pins s1 σ _ _ I1 q2) fun us s2 ⟨vs, H2, I2, r, q⟩ => ⟨I2.kIn, ?_⟩) he hpl
        exact run_fnS h1 hr h4 (L2N.passAt tk σ) I2 r q
      · exact q.elim
  · exact q.elim
end
@[simp] theorem is_list_non : isiD "list" .non = vB false := by unfold isiD tyD; exact congrArg (Option.map _) (by decide +kernel : kitB _ _ = some false)
@[simp] theorem is_list_bl {b : Bool} : isiD "list" (.bl b) = vB false := by unfold isiD tyD; exact congrArg (Option.map _) (by decide +kernel : kitB _ _ = some false)
@[simp] theorem is_list_int {i : Int} : isiD "list" (.int i) = vB false := by unfold isiD tyD; exact congrArg (Option.map _) (by decide +kernel : kitB _ _ = some false)
@[simp] theorem is_list_str {x : Str} : isiD "list" (.str x) = vB false := by unfold isiD tyD; exact congrArg (Option.map _) (by decide +kernel : kitB _ _ = some false)
@[simp] theorem is_list_tup {l : List D} : isiD "list" (.tup l) = vB false := by unfold isiD tyD; exact congrArg (Option.map _) (by decide +kernel : kitB _ _ = some false)
@[simp] theorem is_list_lst {l : List D} : isiD "list" (.lst l) = vB true := by unfold isiD tyD; exact congrArg (Option.map _) (by decide +kernel : kitB _ _ = some true)
end FX
namespace FX
open PySem PySem.Spec PyProof.Rows L2
open LamX (CodeO Tabs TabS ExtN TabB)
open NdefX (NF NScope CellsAt Caps startF ncx envF inv_startN cells_of slotAt)

/-! ### a heap of which some objects are hidden -/
def hide (h : Heap) (p : Addr → Bool) : Heap := { h with objs := h.objs.mapIdx fun i o => if p i then o else { o with data := .freed } }
theorem hide_in {h : Heap} {p : Addr → Bool} {b : Addr} (hp : p b = true) : (hide h p).get? b = h.get? b := by
  have e : (hide h p).objs[b]? = h.objs[b]? := by
    show (h.objs.mapIdx _)[b]? = _
    rw [Array.getElem?_mapIdx]
    cases h.objs[b]? with
    | none => rfl
    | some o => simp [hp]
  unfold Heap.get?
  rw [e]
theorem hide_out {h : Heap} {p : Addr → Bool} {b : Addr} (hp : p b = false) : (hide h p).get? b = none := by
  unfold Heap.get?
  show (match (h.objs.mapIdx fun i o => if p i then o else { o with data := .freed })[b]? with | some ⟨_, _, .freed, _⟩ => none | o => o) = none
  rw [Array.getElem?_mapIdx]
  cases h.objs[b]? with
  | none => rfl
  | some o => simp [hp]
theorem hide_some {h : Heap} {p : Addr → Bool} {b : Addr} {o : Obj} (e : (hide h p).get? b = some o) : p b = true ∧ h.get? b = some o := by
  cases q : p b with
  | true => rw [hide_in q] at e; exact ⟨rfl, e⟩
  | false => rw [hide_out q] at e; cases e
theorem hide_size {h : Heap} {p : Addr → Bool} : (hide h p).objs.size = h.objs.size := by
  show (h.objs.mapIdx _).size = _
  exact Array.size_mapIdx
/-- a base that tells more -/
def BExt (b b' : Heap) : Prop := ∀ a o, b.get? a = some o → b'.get? a = some o
theorem BExt.refl (b : Heap) : BExt b b := fun _ _ h => h
theorem BExt.trans {a b c : Heap} (h : BExt a b) (k : BExt b c) : BExt a c := fun x o e => k x o (h x o e)
theorem Mod.ext {K : PySem.W.Frag} {mg : Str → Option Value} {b b' : Heap} (m : Mod K mg b) (e : BExt b b') : Mod K mg b' := ⟨m.kin.keeps e, m.glob.keeps e, m.blt.elim fun mb h => ⟨mb, h.1.keeps e, h.2⟩, m.nolimit.keeps e⟩

/-! ### plain values -/
mutual
def D.plain : D → Bool
  | .non => true
  | .bl _ => true
  | .int _ => true
  | .str _ => true
  | .fn _ => true
  | .tup l => D.plainL l
  | .lst l => D.plainL l
  | _ => false
def D.plainL : List D → Bool
  | [] => true
  | d :: l => D.plain d && D.plainL l
end
theorem plain_cons {d : D} {l : List D} (h : D.plainL (d :: l) = true) : d.plain = true ∧ D.plainL l = true := by simpa [D.plainL] using h
theorem sq_less {K : PySem.W.Frag} {F F' : Hp} {c a : Addr} {q : Str} {vs : List V} (hc : F' c = some (CodeO c q)) (e : ∀ b, b ≠ c → F b = F' b) (h : SqT K F' a vs) : SqT K F a vs := by
  rcases h with (h | ⟨o, h⟩) | h
  · have n : a ≠ c := fun z => by rw [z, hc] at h; unfold CodeO at h; cases h
    exact .inl (.inl (by rw [e a n]; exact h))
  · have n : a ≠ c := fun z => by rw [z, hc] at h; unfold CodeO at h; cases h
    exact .inl (.inr ⟨o, by rw [e a n]; exact h⟩)
  · exact .inr h
theorem ls_less {F F' : Hp} {c a : Addr} {q : Str} {vs : List V} (hc : F' c = some (CodeO c q)) (e : ∀ b, b ≠ c → F b = F' b) (h : F' a = some (.lst vs)) : F a = some (.lst vs) := by
  have n : a ≠ c := fun z => by rw [z, hc] at h; unfold CodeO at h; cases h
  rw [e a n]; exact h
mutual
theorem rp_less {g : G} {F F' : Hp} {c : Addr} {q : Str} (hc : F' c = some (CodeO c q)) (e : ∀ b, b ≠ c → F b = F' b) : ∀ (d : D) (v : V), d.plain = true → Rp g F' d v → Rp g F d v
  | .non, _, _, h => by cases h; exact .non
  | .bl b, _, _, h => by cases h; exact .bl b
  | .int i, _, _, h => by cases h; exact .int i
  | .str x, _, _, h => by cases h; exact .str x
  | .fn n, _, _, h => by cases h with | fn h => exact .fn h
  | .tup l, _, p, h => by
    rw [D.plain] at p
    cases h with | tup h r => exact .tup (sq_less hc e h) (rp_lessL hc e l _ p r)
  | .lst l, _, p, h => by
    rw [D.plain] at p
    cases h with | lst h r => exact .lst (ls_less hc e h) (rp_lessL hc e l _ p r)
  | .scr _, _, p, _ => by simp [D.plain] at p
  | .exc _ _, _, p, _ => by simp [D.plain] at p
  | .clo _ _, _, p, _ => by simp [D.plain] at p
theorem rp_lessL {g : G} {F F' : Hp} {c : Addr} {q : Str} (hc : F' c = some (CodeO c q)) (e : ∀ b, b ≠ c → F b = F' b) : ∀ (l : List D) (vs : List V), D.plainL l = true → RpL g F' l vs → RpL g F l vs
  | [], _, _, h => by cases h; exact .nil
  | d :: l, _, p, h => by
    have p' := plain_cons p
    cases h with | cons h r => exact .cons (rp_less hc e d _ p'.1 h) (rp_lessL hc e l _ p'.2 r)
end

/-! ### a lambda's function, called by its address -/
structure FnC (g : G) (P : Program) (w : World) (base : Heap) (k : Nat) (κ : Kl) (np : Nat) (m : Ev) : Prop where
  fn : ∀ h : Heap, BExt base h → PySem.W.FnAt κ.a h
  run : ∀ (A : Around) (outer : List Env) (s : Shared) (H : Hp) (us : List Value) (vs : List V) (Q : VK) (F : Hp) (C0 : RC) (ρ0 : Rho) (σ0 : St) (as ds : List D) (d : D) (ρ' : Rho), Room k A → Env0 P w g.K g.mg base A outer s H → H κ.c = some (CodeO κ.c κ.q) → Vals vs us → vs.length = np →
    Rel g C0 F H ρ0 σ0 → RpL g F as vs → RpL g F ds κ.us → m ((as ++ ds).map .val) = .ok (.val d) ρ' → (∀ F' H' v τ, Same F F' → Rel g (sideC F H) F' H' ρ' τ → Rp g F' d v → Q v H') →
    codeAny (model P w) A (.call (.ref κ.a) ⟨us, []⟩) (CR (L2N.CX P w) outer P w H s Q fun _ _ _ => False) s
theorem FnC.mono {g : G} {P : Program} {w : World} {base : Heap} {j k : Nat} {κ : Kl} {np : Nat} {m : Ev} (h : FnC g P w base j κ np m) (hk : j ≤ k) : FnC g P w base k κ np m := ⟨h.fn, fun A outer s H us vs Q F C0 ρ0 σ0 as ds d ρ' hr => h.run A outer s H us vs Q F C0 ρ0 σ0 as ds d ρ' (hr.mono hk)⟩
/-- the words of a lambda -/
abbrev lamF (q : Str) (params : Arguments) (scope : Scope) (cl : List (Str × Addr)) (c : Addr) : NF := ⟨"<lambda>", q, params, [], scope, cl, c⟩
theorem fnC_mk {g : G} {P : Program} {w : World} {base : Heap} {k : Nat} {κ : Kl} {np : Nat} {m : Ev} {params : Arguments} {body : Expr} {scope : Scope} {cl : List (Str × Addr)} {pm ctv : Value} {N ps fr : List Str} (ho : base.get? κ.a = some (PySem.W.kla_obj "<lambda>" κ.q params body scope cl pm κ.c ctv)) (S : NScope N ps fr scope) (hps : ps.length = np) (hN : N.length = ps.length + fr.length) (hlen : κ.us.length = fr.length)
    (all : ∀ y c, cl.lookup y = some c → ∃ v, base.IsCell c v) (inj : ∀ x y c, cl.lookup x = some c → cl.lookup y = some c → x = y) (has : ∀ (i : Nat) (y : Str), fr[i]? = some y → ∃ c, cl.lookup y = some c ∧ ∀ v, κ.us[i]? = some v → ∃ u, RelV v u ∧ base.IsCell c (some u))
    (hbind : ∀ (us : List Value), us.length = np → bindArgs (PySem.W.kla_fn "<lambda>" κ.q params body scope cl pm (.ref κ.c) ctv) ⟨us, []⟩ = pure (ps.zip us))
    (hbody : ∀ (A : Around) (outer : List Env) (s : Shared) (H : Hp), Room k (A.deeper (envF (lamF κ.q params scope cl κ.c) κ.a s.heap.objs.size)) → FE g (ncx (L2N.CX P w) P w g.K g.mg base N (lamF κ.q params scope cl κ.c) κ.a A outer s H fun _ _ _ => False) (ZE fun _ _ _ => False) body m) :
    FnC g P w base (k + 1) κ np m := by
  refine ⟨fun h e => ⟨_, _, _, _, e _ _ ho⟩, fun A outer s H us vs Q F C0 ρ0 σ0 as ds d ρ' hr e0 hc r hl R ra rd em post => ?_⟩
  have of_ := (e0.bs _ _ ho).1
  have lim : s.heap.NoLimit := e0.mod.nolimit.keeps fun b o e => (e0.bs b o e).1
  have kb : ∀ b o, base.get? b = some o → s.heap.get? b = some o := fun b o e => (e0.bs b o e).1
  have CA : CellsAt cl fr (κ.us.map some) s.heap H := by
    refine ⟨by rw [List.length_map]; exact hlen, fun y c e => ?_, inj, fun i y e => ?_⟩
    · obtain ⟨v, o, h1, h2⟩ := all y c e
      exact ⟨(e0.bs _ _ h1).2, v, o, kb _ _ h1, h2⟩
    · obtain ⟨c, h1, h2⟩ := has i y e
      refine ⟨c, h1, fun v ev => ?_⟩
      have ev' : κ.us[i]? = some v := by
        rw [List.getElem?_map] at ev
        cases q : κ.us[i]? with
        | none => rw [q] at ev; cases ev
        | some z => rw [q] at ev; cases ev; rfl
      obtain ⟨u, r1, r2⟩ := h2 v ev'
      exact ⟨u, r1, r2.keeps kb⟩
  refine PySem.W.kla_callFunE hr.depth of_ rfl S.co S.gen rfl (NdefX.codeO_at e0.hok hc) ?_
  have hb := hbind us (by rw [← r.length]; exact hl)
  rw [hb]
  refine wpAny_pure (wpAny_newFunctionEnv S.nocell (fun ⟨n, _⟩ hy => S.par n (List.of_mem_zip hy).1) (fun h₁ hns hsb => ⟨lim.fresh _ hsb, ?_⟩) S.kind)
  have kp : ∀ b o, s.heap.get? b = some o → h₁.get? b = some o := fun b o e => hsb.extBut b o (Nat.ne_of_lt (Heap.lt_size e)) (Heap.get?_push_of_some _ e)
  have I : Inv (ncx (L2N.CX P w) P w g.K g.mg base N (lamF κ.q params scope cl κ.c) κ.a A outer s H fun _ _ _ => False) [] (startF N vs (κ.us.map some)) H { s with heap := h₁, toks := s.toks + (ps.zip us).length } := inv_startN (F := lamF κ.q params scope cl κ.c) S hr.hd e0 (by rw [hl, hps]) r CA hns kp
  have est : startF N vs (κ.us.map some) = (vs ++ κ.us).map some := by
    unfold startF
    rw [show N.length - vs.length - (κ.us.map some).length = 0 by rw [List.length_map, hN, hlen, hl, hps]; omega]
    simp
  rw [est] at I
  refine PySem.W.kla_codeExpr (wpAny_mono ((hbody A outer s H (hr.deeper _)).run [] _ _ H Q I ⟨sideC F H, F, _, R.side (ra.append rd), ?_⟩) (fun v s' ⟨x, H', M', rv, qv⟩ => ⟨x, H', M'.os, M'.bare, M'.base, M'.hok, rv, qv⟩) fun e s' hq => hq)
  rw [em]
  exact fun F' H' s' R' v r' => post F' H' v _ s' R' r'
end FX
namespace FX
open PySem PySem.Spec PyProof.Rows L2
open LamX (CodeO Tabs TabS ExtN TabB)
open NdefX (NF NScope CellsAt Caps startF ncx envF inv_startN cells_of slotAt)

/-! ### f(e, ..), f a name that holds a lambda's function -/
def allV : List Wv → Option (List D)
  | [] => some []
  | .val d :: ws => (allV ws).map (d :: ·)
  | _ :: _ => none
open Classical in
/-- the function κ is called; m: what its body means of the arguments and of what it captured -/
noncomputable def callK (κ : Kl) (i : Nat) (m : Ev) (fs : Av) : Ev := fun ρ => match ρ[i]? with
  | some (.val (.clo κ' ds)) => if κ' = κ then bindA fs (fun ws ρ1 => match allV ws with
      | some as => (match m ((as ++ ds).map .val) with | .ok (.val d) _ => .ok (.val d) ρ1 | _ => .bad)
      | none => .bad) ρ else .bad
  | _ => .bad
theorem callK_eq {κ : Kl} {i : Nat} {m : Ev} {fs : Av} {ρ ρ1 ρ2 : Rho} {as ds : List D} {d : D} (h0 : ρ[i]? = some (.val (.clo κ ds))) (h1 : fs ρ = .ok (as.map .val) ρ1) (h2 : m ((as ++ ds).map .val) = .ok (.val d) ρ2) : callK κ i m fs ρ = .ok (.val d) ρ1 := by
  unfold callK
  rw [h0]
  simp only [if_true, x_bindA, h1]
  have e : ∀ l : List D, allV (l.map .val) = some l := by
    intro l
    induction l with
    | nil => rfl
    | cons a l ih => show (allV (l.map .val)).map (a :: ·) = _; rw [ih]; rfl
  rw [e]
  simp only [h2]
theorem allV_rp {g : G} {C : RC} {F H : Hp} {ρ : Rho} {σ : St} : ∀ {ws : List Wv} {vs : List V} {as : List D}, allV ws = some as → Paired (RpW g C F H ρ σ) ws vs → RpL g F as vs
  | [], _, _, e, .nil => by cases e; exact .nil
  | .val d :: ws, _, as, e, .cons h t => by
    simp only [allV] at e
    obtain ⟨l, e1, rfl⟩ := Option.map_eq_some_iff.mp e
    exact .cons h (allV_rp e1 t)
  | .bor _ :: _, _, _, e, _ => by simp [allV] at e
  | .new _ :: _, _, _, e, _ => by simp [allV] at e
section
variable {g : G} {X : Cx} {Z : WX} {z : Str} {k np : Nat} {e : Expr} {es : List Expr} {fs : Av} {p pos : Pos} {κ : Kl} {m : Ev}
theorem fe_callK (i : Nat) {P : Program} {w : World} {base : Heap} {n : Nat} (h : FnC g P w base k κ np m) (hr : Room k X.A) (ha : FA g X Z (e :: es) fs) [hl : ALen fs n] (hnp : n = np := by rfl) (hN : X.N[i]? = some z := by rfl)
    (hv : Vis X.env.scope z := by first | exact Or.inl rfl | exact Or.inr (Or.inl rfl) | exact Or.inr (Or.inr rfl)) (hP : X.prog = P := by rfl) (hw : X.w = w := by rfl) (hb : X.base = base := by rfl) (hK : X.K = g.K := by rfl) (hM : X.mg = g.mg := by rfl)
    (hdb : (z == ("__debug__" : Str)) = false := by decide) (hcd : (z == ("__classdict__" : Str)) = false := by decide) (he : starEach (e :: es) X.env = (false, eval e X.env) :: starEach es X.env := by rfl) (hpl : (backTo pos (starEach es X.env)).any (·.1) = false := by rfl) :
    FE g X Z (.Call (.Name z p) (e :: es) [] pos) (callK κ i m fs) := by
  refine ⟨fun pins s σ H Q I ⟨C, F, ρ, R, q⟩ => ?_⟩
  unfold callK at q
  split at q
  · rename_i κ' ds hx
    split at q
    · rename_i hκ
      subst hκ
      obtain ⟨v, hv1, hv2⟩ := R.val _ _ hx
      cases hv2 with
      | clo hc hd =>
        subst hP hw hb
        have kF : ∀ {T : Heap}, BExt X.base T → PySem.W.FnAt κ'.a T := fun e => h.fn _ e
        refine wpAny_Call_Name_kw (thn ((pe_var (pos := p) hN hv hdb hcd).run pins s σ H (fun v H1 => v = .ref κ'.a ∧ H1 = H) I ⟨.ref κ'.a, hv1, rfl, rfl⟩) fun u s1 ⟨v, H1, I1, r1, q1⟩ => ?_)
        obtain ⟨rfl, rfl⟩ := q1
        cases r1
        have q2 : tA g Z fs σ H1 fun vs H2 => ∃ F2 ρ2 as d ρ', Rel g C F2 H2 ρ2 σ ∧ H2 κ'.c = some (CodeO κ'.c κ'.q) ∧ vs.length = np ∧ RpL g F2 as vs ∧ RpL g F2 ds κ'.us ∧ m ((as ++ ds).map .val) = .ok (.val d) ρ' ∧ ∀ F' H', Same F2 F' → Rel g C F' H' ρ2 σ → ∀ v, Rp g F' d v → Q v H' := by
          refine fa_len_use (n := n) (postA_bind R q fun F2 H2 ρ2 ws vs s2 R2 rs nn P2 hlen => ?_) hl.len
          split at P2
          · rename_i as e1
            split at P2
            · rename_i d ρ' e2
              exact ⟨F2, ρ2, as, d, ρ', R2, R2.sub _ _ (s2 _ _ hc), hlen.trans hnp, allV_rp e1 rs, hd.mono s2, e2, P2⟩
            · exact P2.elim
          · exact P2.elim
        refine PySem.W.callWith_F (first := []) (kF I1.bk) (thn (ha.run pos pins s1 σ _ _ I1 q2) fun us s2 ⟨vs, H2, I2, r, F2, ρ2, as, d, ρ', R2, hc2, hl2, ra, rd, em, fin⟩ => ⟨kF I2.bk, ?_⟩) he hpl
        refine wpAny_call (codeAny_mono (h.run X.A X.stack s2 H2 us vs Q F2 C ρ2 σ as ds d ρ' hr (by rw [← hK, ← hM]; exact I2.env0) hc2 r hl2 R2 ra rd em fun F' H' v τ s' R' rv => fin F' H' s' (R2.unside s' R') v rv) fun r s' hq => ?_)
        cases r with
        | error e =>
          obtain ⟨_, _, _, _, _, _, _, _, _, _, _, _, hE⟩ := hq
          exact hE.elim
        | ok fl =>
          cases fl with
          | ret u => exact I2.after hq
          | next => exact hq.elim
          | brk => exact hq.elim
          | cont => exact hq.elim
    · exact q.elim
  · exact q.elim
end

theorem takesF {X : Cx} : L2N.Takes X (ZE fun _ _ _ => False) := fun _ _ ⟨_, _, _, _, _, _, _, _, _, _, _, _, _, _, _, _, z⟩ => z.elim

/-! ### x(e1, e2, lambda ..: e) -/
def capt (js : List Nat) (ρ : Rho) : Option (List D) := match js with
  | [] => some []
  | j :: js => match ρ[j]?, capt js ρ with
    | some (.val d), some ds => some (d :: ds)
    | _, _ => none
theorem capt_rp {g : G} {C : RC} {F H : Hp} {ρ : Rho} {σ : St} (R : Rel g C F H ρ σ) : ∀ {js : List Nat} {ds : List D}, capt js ρ = some ds → ∃ us : List V, js.map (slotAt σ) = us.map some ∧ RpL g F ds us
  | [], ds, e => by cases e; exact ⟨[], rfl, .nil⟩
  | j :: js, ds, e => by
    unfold capt at e
    split at e
    · rename_i d ds' h1 h2
      cases e
      obtain ⟨v, e1, e2⟩ := R.val _ _ h1
      obtain ⟨us, e3, e4⟩ := capt_rp R h2
      exact ⟨v :: us, by rw [List.map_cons, List.map_cons, e3, NdefX.slotAt_of e1], .cons e2 e4⟩
    · cases e
open Classical in
/-- the def M is handed a lambda whose body means ml -/
noncomputable def lamCallE (M : Kl → Ev → Ev) (ml : Ev) (js : List Nat) (f1 f2 : Ev) : Ev := bindG f1 fun w1 => bindG f2 fun w2 ρ => match w1, w2, capt js ρ with
  | .val d1, .val d2, some ds => if h : ∃ d : D, d.plain = true ∧ ∀ κ, M κ ml [.val d1, .val d2, .val (.clo κ ds)] = .ok (.val d) [.val d1, .val d2, .val (.clo κ ds)] then .ok (.val h.choose) ρ else .bad
  | _, _, _ => .bad
theorem lamCallE_eq {M : Kl → Ev → Ev} {ml : Ev} {js : List Nat} {f1 f2 : Ev} {ρ ρ1 ρ2 : Rho} {d1 d2 d : D} {ds : List D} (h1 : f1 ρ = .ok (.val d1) ρ1) (h2 : f2 ρ1 = .ok (.val d2) ρ2) (hc : capt js ρ2 = some ds) (hp : d.plain = true)
    (hM : ∀ κ, M κ ml [.val d1, .val d2, .val (.clo κ ds)] = .ok (.val d) [.val d1, .val d2, .val (.clo κ ds)]) : lamCallE M ml js f1 f2 ρ = .ok (.val d) ρ2 := by
  unfold lamCallE
  simp only [x_bindG, h1, h2, x_fz1, hc]
  have h : ∃ d : D, d.plain = true ∧ ∀ κ, M κ ml [.val d1, .val d2, .val (.clo κ ds)] = .ok (.val d) [.val d1, .val d2, .val (.clo κ ds)] := ⟨d, hp, hM⟩
  rw [dif_pos h]
  have e1 := h.choose_spec.2 ⟨0, 0, "", []⟩
  rw [hM] at e1
  injection e1 with e1 _
  injection e1 with e1
  rw [← e1]
theorem funs_more {h b b' : Heap} : ∀ {l : List Env}, h.FunFrames b l → (∀ L ∈ frs l, b'.get? L = none) → h.FunFrames b' l
  | [], _, _ => trivial
  | env :: r, ⟨hk, ⟨L, o, hf, hn, ho, hd⟩, hr⟩, n => by
    have e : frs (env :: r) = L :: frs r := by unfold frs; rw [List.filterMap_cons, hf]
    exact ⟨hk, ⟨L, o, hf, n L (by rw [e]; exact List.mem_cons_self ..), ho, hd⟩, funs_more hr fun L' h' => n L' (by rw [e]; exact List.mem_cons_of_mem _ h')⟩
section
variable {g : G} {X : Cx} {Z : WX} {x : Str} {k kl np : Nat} {e1 e2 body : Expr} {f1 f2 ml : Ev} {p lpos pos : Pos} {params : Arguments} {scope : Scope} {N ps fr : List Str} {js : List Nat} {M : Kl → Ev → Ev}
theorem fe_lamcall {P : Program} {w : World} {base : Heap} {fa : Addr} (Mk : LamMk g X) (hr : Room k X.A) (h1 : FE g X Z e1 f1) (h2 : FE g X Z e2 f2) (hps : ps.length = np) (hN : N.length = ps.length + fr.length)
    (hcal : ∀ b', BExt base b' → ∀ κ, FnC g P w b' (kl + 1) κ np ml → Fn g P w b' k x 3 (M κ ml)) (hbody : ∀ b', BExt base b' → ∀ (q : Str) (cl : List (Str × Addr)) (a c : Addr) (A : Around) (outer : List Env) (s : Shared) (H : Hp), Room kl (A.deeper (envF (lamF q params scope cl c) a s.heap.objs.size)) →
      FE g (ncx (L2N.CX P w) P w g.K g.mg b' N (lamF q params scope cl c) a A outer s H fun _ _ _ => False) (ZE fun _ _ _ => False) body ml)
    (hm : g.mg x = some (.ref fa)) (hkp : PySem.W.keepIn g.K (.ref fa) = true) (hS : NdefX.nscB N ps fr scope = true := by rfl) (hB : NdefX.ndefB X.env.scope scope fr = true := by rfl) (hjs : js.map (fun j => X.N[j]?) = fr.map some := by rfl)
    (hbind : ∀ (q : Str) (cl : List (Str × Addr)) (pm cv ctv : Value) (us : List Value), us.length = np → bindArgs (PySem.W.kla_fn "<lambda>" q params body scope cl pm cv ctv) ⟨us, []⟩ = pure (ps.zip us) := by
      intro _ _ _ _ _ us hl
      match us, hl with
      | [_, _], _ => rfl) (hdef : defaultsOf params X.env = ([], []) := by rfl) (hfn : ∀ y, X.fn y = true := by intro _; rfl)
    (hg : Gl X x := by rfl) (hP : X.prog = P := by rfl) (hw : X.w = w := by rfl) (hb : X.base = base := by rfl) (hK : X.K = g.K := by rfl) (hM : X.mg = g.mg := by rfl) (hdb : (x == ("__debug__" : Str)) = false := by decide)
    (hs : starEach [e1, e2, .Lambda params body scope lpos] X.env = (false, eval e1 X.env) :: (false, eval e2 X.env) :: (false, eval (.Lambda params body scope lpos) X.env) :: starEach [] X.env := by rfl)
    (he : starEach [e1, e2, .Lambda params body scope lpos] X.env = (false, eval e1 X.env) :: starEach [e2, .Lambda params body scope lpos] X.env := by rfl) (hpl : (backTo pos (starEach [e2, .Lambda params body scope lpos] X.env)).any (·.1) = false := by rfl)
    (hbk : backTo pos (starEach [e1, e2, .Lambda params body scope lpos] X.env) = (false, eval e1 X.env) :: (false, eval e2 X.env) :: (false, eval (.Lambda params body scope lpos) X.env) :: backTo pos (starEach [] X.env) := by rfl) :
    FE g X Z (.Call (.Name x p) [e1, e2, .Lambda params body scope lpos] [] pos) (lamCallE M ml js f1 f2) := by
  subst hP hw hb
  obtain ⟨cX, PX, m1, m2, m3, m4⟩ := Mk.ex
  have S := NdefX.nscope_by hS
  refine ⟨fun pins s σ H Q I ⟨C, F, ρ, R, P⟩ => ?_⟩
  have P := P
  unfold lamCallE at P
  refine wpAny_Call_Name_kw (ld_glob I hg (by rw [hM]; exact hm) (PySem.W.callWith_K (h₀ := X.base) I.ok.mod.kin (by rw [hK]; exact hkp) (?_ : wpAny _ _ (spliced (backTo pos (starEach [e1, e2, .Lambda params body scope lpos] X.env))) _ _ s) he hpl) hdb)
  rw [hbk]
  have q1 : tE g Z f1 σ H fun v1 H1 => tE g Z f2 σ H1 fun v2 H2 => ∃ F2 ρ2 d1 d2 ds d, Rel g C F2 H2 ρ2 σ ∧ Rp g F2 d1 v1 ∧ Rp g F2 d2 v2 ∧ capt js ρ2 = some ds ∧ d.plain = true ∧ (∀ κ, M κ ml [.val d1, .val d2, .val (.clo κ ds)] = .ok (.val d) [.val d1, .val d2, .val (.clo κ ds)]) ∧ ∀ F' H', Same F2 F' → Rel g C F' H' ρ2 σ → ∀ v, Rp g F' d v → Q v H' := by
    refine post_bind R P fun F1 H1 ρ1 w1 v1 s1 R1 r1 n1 P1 => post_bind R1 P1 fun F2 H2 ρ2 w2 v2 s2 R2 r2 n2 P2 => ?_
    split at P2
    · rename_i d1 d2 ds hc
      split at P2
      · rename_i hx
        exact ⟨F2, ρ2, d1, d2, ds, hx.choose, R2, Rp.mono s2 r1, r2, hc, hx.choose_spec.1, hx.choose_spec.2, P2⟩
      · exact P2.elim
    · exact P2.elim
  refine Calls.spliced_cons (thn (h1.run pins s σ H _ I q1) fun u1 s1 ⟨v1, H1, I1, rv1, q2⟩ => Calls.spliced_cons (thn (h2.run pins s1 σ H1 _ I1 q2) fun u2 s2 ⟨v2, H2, I2, rv2, F2, ρ2, d1, d2, ds, d, R2, r1, r2, hc, hp, hsp, fin⟩ => Calls.spliced_cons (LamX.lam_make2 I2 m1 m2 m3 m4 R2.tab hdef (fun y hy e => (NdefX.ndef_free hB y hy e).elim (fun z => I2.ok.has _ (.inl z)) fun z => I2.ok.has _ (.inr z)) fun f c' pm ctv H3 s3 J eN T3 hf nf ff hco => Calls.spliced_nil ⟨J.kIn, ?_⟩)))
  have R3 := R2.tabs eN T3
  obtain ⟨us, eus, rus⟩ := capt_rp R3 hc
  have cp := Caps.made (X := X) (scope := scope) (fr := fr) (js := js) J.ok (NdefX.ndef_free hB) (NdefX.ndef_fr hB) hjs
  have CA := cells_of J cp
  rw [eus] at CA
  have pd : ∀ b : Addr, Decidable (X.base.get? b ≠ none ∨ b = f ∨ ∃ y, (cloFrom X.env.cells scope.names []).lookup y = some b) := fun b => Classical.propDecidable _
  generalize hcl : cloFrom X.env.cells scope.names [] = cl at *
  obtain ⟨pB, hpB⟩ : ∃ pB : Addr → Bool, ∀ b, pB b = true ↔ (X.base.get? b ≠ none ∨ b = f ∨ ∃ y, cl.lookup y = some b) := ⟨fun b => @decide _ (pd b), fun b => by simp⟩
  have hx : BExt X.base (hide s3.heap pB) := fun a o e => by rw [hide_in ((hpB a).mpr (.inl (by rw [e]; simp)))]; exact J.bk a o e
  have hb' : ∀ b o, (hide s3.heap pB).get? b = some o → s3.heap.get? b = some o ∧ H3 b = none := fun b o e => by
    obtain ⟨h1, h2⟩ := hide_some e
    refine ⟨h2, ?_⟩
    rcases (hpB b).mp h1 with z | rfl | ⟨y, z⟩
    · cases q : X.base.get? b with
      | none => exact absurd q z
      | some o2 => exact (J.bs b o2 q).2
    · exact nf
    · exact (CA.all y b z).1
  have hfr : ∀ L ∈ frs X.stack, (hide s3.heap pB).get? L = none := fun L hL => by
    refine hide_out (Bool.eq_false_iff.mpr fun z => ?_)
    rcases (hpB L).mp z with z | rfl | ⟨y, z⟩
    · exact z (J.env0.funs.mem hL).1
    · exact ff hL
    · have z2 := cp.sub y L z
      rcases List.mem_cons.mp (J.stkSub L hL) with e | e
      · exact J.cne y L z2 e
      · obtain ⟨_, o, ho, _⟩ := J.ok.funs.mem e
        exact absurd (Heap.lt_size ho) (Nat.not_lt.mpr (J.ok.cab y L (hfn y) z2))
  have ho : (hide s3.heap pB).get? f = some (PySem.W.kla_obj "<lambda>" (X.env.qual ++ "<lambda>") params body scope cl pm c' ctv) := by rw [hide_in ((hpB f).mpr (.inr (.inl rfl)))]; exact hf
  have kc : ∀ y c v, cl.lookup y = some c → s3.heap.IsCell c v → (hide s3.heap pB).IsCell c v := fun y c v e ⟨o, h1, h2⟩ => ⟨o, by rw [hide_in ((hpB c).mpr (.inr (.inr ⟨y, e⟩)))]; exact h1, h2⟩
  have fc : FnC g X.prog X.w (hide s3.heap pB) (kl + 1) ⟨f, c', X.env.qual ++ "<lambda>", us⟩ np ml := fnC_mk (κ := ⟨f, c', X.env.qual ++ "<lambda>", us⟩) ho S hps hN (by have := CA.len; rw [List.length_map] at this; exact this) (fun y c e => (CA.all y c e).2.elim fun v z => ⟨v, kc y c v e z⟩) CA.inj (fun i y e => by
      obtain ⟨c, a1, a2⟩ := CA.has i y e
      refine ⟨c, a1, fun v ev => ?_⟩
      obtain ⟨u, b1, b2⟩ := a2 v (by rw [List.getElem?_map]; have ev : us[i]? = some v := ev; rw [ev]; rfl)
      exact ⟨u, b1, kc y c _ a1 b2⟩) (fun us' hl => hbind _ _ _ _ _ us' hl) (fun A outer s H hr => hbody _ hx _ _ _ _ A outer s H hr)
  obtain ⟨fa', fd, ps', w1, w2, w3, w4⟩ := (hcal _ hx _ fc).ex
  rw [hm] at w2
  cases w2
  have s23 : Same F2 (upd F2 c' (CodeO c' (X.env.qual ++ "<lambda>"))) := fun a u e => by
    by_cases ha : a = c'
    · subst ha
      have := R3.sub _ _ e
      rw [hco] at this
      cases this
      exact upd_same
    · rw [upd_ne ha]; exact e
  have sub3 : Same (upd F2 c' (CodeO c' (X.env.qual ++ "<lambda>"))) H3 := fun a u e => by
    by_cases ha : a = c'
    · subst ha; rw [upd_same] at e; cases e; exact hco
    · rw [upd_ne ha] at e; exact R3.sub _ _ e
  have no3 : ∀ a ps, upd F2 c' (CodeO c' (X.env.qual ++ "<lambda>")) a ≠ some (.tbl ps) := fun a ps e => by
    by_cases ha : a = c'
    · subst ha; rw [upd_same] at e; unfold CodeO at e; cases e
    · rw [upd_ne ha] at e; exact R3.noTF _ _ e
  have Rb : Rel g (sideC (upd F2 c' (CodeO c' (X.env.qual ++ "<lambda>"))) H3) (upd F2 c' (CodeO c' (X.env.qual ++ "<lambda>"))) H3 [] [] := ⟨rfl, sub3, fun a o e => (outB_some (H := H3) (os := []) e).1, fun a o e => .inl e, R3.tab, no3, fun a ps e => (outB_some (H := H3) (os := []) e).2.2 ps rfl, fun i d e => by simp at e, fun i p o e => by simp at e, fun i j a e => by simp [isOwn] at e, fun p hp => by cases hp⟩
  have Rc := Rb.side (ds := [d1, d2, .clo ⟨f, c', X.env.qual ++ "<lambda>", us⟩ ds]) (vs := [v1, v2, .ref f]) (.cons (r1.mono s23) (.cons (r2.mono s23) (.cons (.clo upd_same (rus.mono s23)) .nil)))
  have sp : spF g 3 (M ⟨f, c', X.env.qual ++ "<lambda>", us⟩ ml) [v1, v2, .ref f] H3 Q (fun _ _ _ => False) := by
    refine ⟨rfl, _, _, _, rfl, Rc, ?_⟩
    have e := hsp ⟨f, c', X.env.qual ++ "<lambda>", us⟩
    show postE g _ _ _ _ _ (M _ ml [.val d1, .val d2, .val (.clo _ ds)])
    rw [e]
    intro F' H' s' R' v r
    have hF' : F' c' = some (CodeO c' (X.env.qual ++ "<lambda>")) := s' _ _ upd_same
    have s'' : Same F2 (fun a => if a = c' then F2 c' else F' a) := fun a u e => by
      show (if a = c' then F2 c' else F' a) = some u
      by_cases ha : a = c'
      · rw [if_pos ha, ← ha]; exact e
      · rw [if_neg ha]; exact s' _ _ (s23 _ _ e)
    have le : ∀ a u, (if a = c' then F2 c' else F' a) = some u → F' a = some u := fun a u e => by
      by_cases ha : a = c'
      · rw [if_pos ha] at e
        rw [ha]
        exact s' _ _ (s23 _ _ e)
      · rw [if_neg ha] at e; exact e
    have Rz : Rel g (sideC F2 H3) (fun a => if a = c' then F2 c' else F' a) H' [] [] := ⟨rfl, fun a u e => R'.sub _ _ (le a u e), R'.subB, fun a u e => by
      by_cases ha : a = c'
      · have e : (if a = c' then F2 c' else F' a) = some u := e
        rw [if_pos ha] at e
        exact .inl (by rw [ha]; exact e)
      · have e : (if a = c' then F2 c' else F' a) = some u := e
        rw [if_neg ha] at e
        rcases R'.grow a u e with y | y
        · have y : upd F2 c' (CodeO c' (X.env.qual ++ "<lambda>")) a = some u := y
          rw [upd_ne ha] at y
          exact .inl y
        · exact .inr y, R'.tab, fun a ps e => R'.noTF a ps (le a _ e), R'.noTB, fun i d e => by simp at e, fun i p o e => by simp at e, fun i j a e => by simp [isOwn] at e, fun p hp => by cases hp⟩
    exact fin _ H' s'' (R3.unside s'' Rz) v (rp_less hF' (fun b hb => if_neg hb) d v hp r)
  have hl3 := w1.len _ _ _ _ sp
  have bd := w4 s3 [u1, u2, .ref f] (by rw [← hK]; exact J.kIn) (by rw [List.append_nil]; exact hl3)
  rw [List.append_nil] at bd
  have E' : Env0 X.prog X.w g.K g.mg (hide s3.heap pB) X.A X.stack s3 H3 := by
    have E := J.env0
    rw [hK, hM] at E
    exact ⟨E.frames, FX.Mod.ext E.mod hx, hb', by rw [hide_size]; exact Nat.le_refl _, funs_more E.funs hfr, E.frf, E.hok, E.bare⟩
  refine wpAny_call (codeAny_mono (w1.run X.A X.stack s3 H3 ⟨[u1, u2, .ref f], []⟩ [u1, u2, .ref f] [v1, v2, .ref f] Q (fun _ _ _ => False) hr E' bd (.cons rv1 (.cons rv2 (.cons rfl .nil))) sp) fun r s' hq => ?_)
  cases r with
  | error e =>
    obtain ⟨_, _, _, _, _, _, _, _, _, _, _, _, hE⟩ := hq
    exact hE.elim
  | ok fl =>
    cases fl with
    | ret u => exact J.after hq
    | next => exact hq.elim
    | brk => exact hq.elim
    | cont => exact hq.elim
end
end FX
namespace FX
open PySem PySem.Spec PyProof.Rows L2

/-! ### dicts with any keys that are ints or texts -/
def keyD : D → Option Key
  | .int i => some (.inl i)
  | .str x => some (.inr x)
  | _ => none
def findK (kvs : List (Key × D)) (k : Key) : Option D := (kvs.find? fun kv => decide (kv.1 = k)).map (·.2)
def putKD (kvs : List (Key × D)) (k : Key) (d : D) : List (Key × D) := if (kvs.any fun kv => decide (kv.1 = k)) = true then kvs.map (fun kv => if kv.1 = k then (kv.1, d) else kv) else kvs ++ [(k, d)]
def newDicE : Ev := fun ρ => .ok (.new (.dic [])) ρ
def setKS (i : Nat) (fk f : Ev) : Sv := bindS f fun w ρ => if isOwnD ρ[i]? then bindS fk (fun wk ρ => match w, wk, ρ[i]? with
  | .val d, .val dk, some (.own q (.dic kvs)) => (match keyD dk with
    | some k => if kvs.length < sizeLine then .nx (ρ.set i (.own q (.dic (putKD kvs k d)))) else .bad
    | none => .bad)
  | _, _, _ => .bad) ρ else .bad
def inKE (neg : Bool) (i : Nat) (fk : Ev) : Ev := bindG fk fun wk ρ => match wk, ρ[i]? with
  | .val dk, some (.own _ (.dic kvs)) => (match keyD dk with
    | some k => .ok (.val (.bl (if neg then !(findK kvs k).isSome else (findK kvs k).isSome))) ρ
    | none => .bad)
  | _, _ => .bad
def getKE (i : Nat) (fk : Ev) : Ev := fun ρ => if isOwnD ρ[i]? then bindG fk (fun wk ρ => match wk, ρ[i]? with
  | .val dk, some (.own _ (.dic kvs)) => (match (keyD dk).bind (findK kvs) with
    | some d => .ok (.val d) ρ
    | none => .bad)
  | _, _ => .bad) ρ else .bad
section
variable {g : G} {C : RC} {F H : Hp} {ρ : Rho} {σ : St} {Z : WX} {X : Cx} {pos p1 apos : Pos} {z : Str} {e k : Expr} {f fk : Ev}
theorem keyD_rp {d : D} {v : V} {k : Key} (r : Rp g F d v) (e : keyD d = some k) : v = kV k := by
  cases d <;> first | (cases e; done) | skip
  · cases e; cases r; rfl
  · cases e; cases r; rfl
theorem kv_find {kvs : List (Key × D)} {kws : List (Key × V)} {k : Key} (r : RpKV g F kvs kws) : match findK kvs k with
    | some d => ∃ v, valV kws k = some v ∧ Rp g F d v
    | none => valV kws k = none := by
  induction r with
  | nil => rfl
  | @cons p q ps qs h1 t ih =>
    by_cases e : p.1 = k
    · have e2 : q.1 = k := h1.1 ▸ e
      simp only [findK, List.find?_cons, e, decide_true, Option.map_some]
      exact ⟨_, valV_pos e2, h1.2⟩
    · have e2 : ¬ q.1 = k := h1.1 ▸ e
      rw [valV_neg e2]
      simp only [findK, List.find?_cons, e, decide_false]
      exact ih
theorem kv_any {kvs : List (Key × D)} {kws : List (Key × V)} {k : Key} (r : RpKV g F kvs kws) : (kvs.any fun kv => decide (kv.1 = k)) = (kws.any fun kv => decide (kv.1 = k)) := by
  induction r with
  | nil => rfl
  | cons h1 t ih => rw [List.any_cons, List.any_cons, ih, h1.1]
theorem kv_map {kvs : List (Key × D)} {kws : List (Key × V)} {k : Key} {d : D} {v : V} (r : RpKV g F kvs kws) (h : Rp g F d v) : RpKV g F (kvs.map fun kv => if kv.1 = k then (kv.1, d) else kv) (kws.map fun kv => if kv.1 = k then (kv.1, v) else kv) := by
  induction r with
  | nil => exact .nil
  | @cons p q ps qs h1 t ih =>
    refine .cons ?_ ih
    by_cases e : p.1 = k
    · have e2 : q.1 = k := h1.1 ▸ e
      simp only [if_pos e, if_pos e2]
      exact ⟨h1.1, h⟩
    · have e2 : ¬ q.1 = k := h1.1 ▸ e
      simp only [if_neg e, if_neg e2]
      exact h1
theorem kv_put {kvs : List (Key × D)} {kws : List (Key × V)} {k : Key} {d : D} {v : V} (r : RpKV g F kvs kws) (h : Rp g F d v) : RpKV g F (putKD kvs k d) (putK kws k v) := by
  unfold putKD putK
  rw [kv_any r]
  split
  · exact kv_map r h
  · exact kv_snoc r h
theorem fe_dic0 : FE g X Z (.Dict [] [] pos) newDicE := pe_imp pe_dnewK fun σ H Q ⟨C, F, ρ, R, P⟩ p hp =>
  P F _ (Same.refl F) (R.alloc hp) (.ref p) ⟨p, rfl, ⟨[], upd_same, .nil⟩, none_of_same R.sub hp, none_of_same R.subB hp, R.newAt hp⟩
theorem fs_setK (i : Nat) (hu : X.A.units + 1 < cLine) (hk : FE g X Z k fk) (he : FE g X Z e f) (hN : X.N[i]? = some z := by rfl) (hv : Vis X.env.scope z := by first | exact Or.inl rfl | exact Or.inr (Or.inl rfl) | exact Or.inr (Or.inr rfl)) (hd : (z == ("__debug__" : Str)) = false := by decide) (hcd : (z == ("__classdict__" : Str)) = false := by decide)
    (hs : swapsWith e (some (.Subscript (.Name z p1) k apos)) pos.line X.env = pure false := by rfl) :
    FS g X Z (.Assign [.Subscript (.Name z p1) k apos] e pos) (setKS i fk f) :=
  ps_imp (ps_dput hu (pe_var hN hv hd hcd) hk he hs) fun N σ H ⟨C, F, ρ, R, P⟩ => postS_bind (Z' := Z) R P fun F1 H1 ρ1 w v s1 R1 r1 n1 P1 => by
    split at P1
    · rename_i ho
      obtain ⟨q, l, a, vs, e1, hσ, h2, h3⟩ := own_dict R1 ho
      refine ⟨.ref a, hσ, ?_⟩
      refine postS_bind (Z' := Z) R1 P1 fun F2 H2 ρ2 wk vk s2 R2 r2 n2 P2 => ?_
      split at P2
      · rename_i d dk q2 kvs e3
        split at P2
        · rename_i kk ek
          split at P2
          · rename_i hl
            obtain ⟨b, o1, ⟨kws, o2, o3⟩, o4⟩ := R2.own _ _ _ e3
            rw [hσ] at o1
            cases o1
            have ev := keyD_rp r2 ek
            subst ev
            have r1' : Rp g F2 d v := Rp.mono s2 r1
            have z1 := kv_len o3
            refine ⟨a, _, rfl, DPut.k (k := kk) o2 (by omega), ?_⟩
            exact P2 F2 _ _ (Same.refl F2) (R2.write (u' := .dic (putKD kvs kk d)) (o := .dK (putK kws kk v)) e3 hσ (fun ps z => by cases z) ⟨_, upd_same, kv_put o3 r1'⟩)
          · exact P2.elim
        · exact P2.elim
      · exact P2.elim
    · exact P1.elim
theorem inK_use {neg : Bool} {i : Nat} {Q : VK} (h : tE g Z (inKE neg i fk) σ H Q) (hN : True) : tE g Z fk σ H fun y H1 => ∃ v, σ[i]? = some (some v) ∧ ∃ (a : Addr) (o : Option V), v = .ref a ∧ DGet H1 a y o ∧ Q (.bl (if neg then !o.isSome else o.isSome)) H1 := by
  obtain ⟨C, F, ρ, R, P⟩ := h
  refine post_bind R P fun F1 H1 ρ1 wk vk s1 R1 r1 n1 P1 => ?_
  split at P1
  · rename_i dk q kvs e1
    split at P1
    · rename_i kk ek
      obtain ⟨a, o1, ⟨kws, o2, o3⟩, o4⟩ := R1.own _ _ _ e1
      have ev := keyD_rp r1 ek
      subst ev
      refine ⟨.ref a, o1, a, _, rfl, DGet.k (k := kk) o2, ?_⟩
      have f := kv_find (k := kk) o3
      have q := P1 F1 H1 (Same.refl F1) R1 _ (.bl _)
      cases e : findK kvs kk with
      | none =>
        rw [e] at f q
        have f' : valV kws kk = none := f
        rw [f']
        exact q
      | some d =>
        rw [e] at f q
        obtain ⟨v, f', _⟩ := f
        rw [f']
        exact q
    · exact P1.elim
  · exact P1.elim
theorem ft_notInK (i : Nat) (hu : X.A.units + 1 < cLine) (hk : FE g X Z k fk) (hN : X.N[i]? = some z := by rfl) (hv : Vis X.env.scope z := by first | exact Or.inl rfl | exact Or.inr (Or.inl rfl) | exact Or.inr (Or.inr rfl)) (hd : (z == ("__debug__" : Str)) = false := by decide) (hcd : (z == ("__classdict__" : Str)) = false := by decide)
    (hm : behindInMarks .NotIn (.Name z p1) = false := by rfl) : FT g X Z (.Compare k [.NotIn] [.Name z p1] pos) (valT (inKE true i fk)) :=
  pt_imp (pt_cmp (pc_dnotin hu hk (pe_var hN hv hd hcd)) hm) fun σ H Q q => by
    obtain ⟨C, F, ρ, R, P⟩ := inK_use (valT_use q) trivial
    refine ⟨C, F, ρ, R, ?_⟩
    cases e : fk ρ with
    | bad => rw [e] at P; exact P
    | ex x ρ' => rw [e] at P; exact P
    | ok w ρ' =>
      rw [e] at P
      intro F' H' s R' v r
      obtain ⟨u, h1, a, o, h2, h3, b, h4, h5⟩ := P F' H' s R' v r
      exact ⟨u, h1, a, o, h2, h3, b, h4, h5⟩
theorem fe_getK (i : Nat) (hu : X.A.units + 1 < cLine) (hk : FE g X Z k fk) (hN : X.N[i]? = some z := by rfl) (hv : Vis X.env.scope z := by first | exact Or.inl rfl | exact Or.inr (Or.inl rfl) | exact Or.inr (Or.inr rfl)) (hd : (z == ("__debug__" : Str)) = false := by decide) (hcd : (z == ("__classdict__" : Str)) = false := by decide)
    (hs : NoSl k := by exact fun _ _ => rfl) : FE g X Z (.Subscript (.Name z p1) k pos) (getKE i fk) := pe_imp (pe_dget hu (pe_var hN hv hd hcd) hk hs) fun σ H Q ⟨C, F, ρ, R, P⟩ => by
  unfold getKE at P
  split at P
  · rename_i ho
    obtain ⟨q, l, a, vs, e1, h1, h2, h3⟩ := own_dict R ho
    refine ⟨.ref a, h1, ?_⟩
    refine post_bind R P fun F1 H1 ρ1 wk vk s1 R1 r1 n1 P1 => ?_
    split at P1
    · rename_i dk q2 kvs e3
      obtain ⟨b, o1, ⟨kws, o2, o3⟩, o4⟩ := R1.own _ _ _ e3
      rw [h1] at o1
      cases o1
      split at P1
      · rename_i d ed
        obtain ⟨kk, ek, ef⟩ := Option.bind_eq_some_iff.mp ed
        have ev := keyD_rp r1 ek
        subst ev
        have f := kv_find (k := kk) o3
        rw [ef] at f
        obtain ⟨v, f1, f2⟩ := f
        exact ⟨a, v, rfl, by rw [← f1]; exact DGet.k (k := kk) o2, P1 F1 H1 (Same.refl F1) R1 _ f2⟩
      · exact P1.elim
    · exact P1.elim
  · exact P.elim
end

/-! ### range(i, j, -1) -/
def downD (lo : Int) (n : Nat) : List D := (List.range n).map fun i => .int (lo + (i : Nat) * (-1))
def rngD (f h : Ev) : Iv := bindG f fun w => bindG h fun u ρ => match w, u with
  | .val (.int i), .val (.int j) => if -(2 ^ 62) ≤ i ∧ i < 2 ^ 62 ∧ -(2 ^ 62) ≤ j ∧ j < 2 ^ 62 then .ok (downD i (i - j).toNat) ρ else .bad
  | _, _ => .bad
section
variable {g : G} {C : RC} {F H : Hp} {ρ ρ' : Rho} {σ : St} {Z : WX} {X : Cx} {e a b tg : Expr} {fa fb : Ev} {pos : Pos}
theorem jok_rangeC {lo : Int} {n : Nat} : JOk g F (Itc lo (-1) n) (downD lo n) := fun C F' H' ρ σ s R => by
  refine ⟨fun i d e => ?_, fun i hi => by
    have q : n ≤ i := by simpa [downD] using hi
    exact q⟩
  have hi : i < n := by
    have := (List.getElem?_eq_some_iff.mp e).1
    simpa [downD] using this
  refine ⟨hi, fun x H2 y => ?_⟩
  obtain ⟨rfl, rfl⟩ := y
  have : d = .int (lo + (i : Nat) * (-1)) := by
    unfold downD at e
    rw [List.getElem?_map, List.getElem?_range hi] at e
    exact (Option.some.inj e).symm
  subst this
  exact ⟨F', Same.refl F', R, .int _⟩
theorem fi_rngD {p p1 p2 : Pos} {k : Nat} (hg : Gl X "range") (hm : X.mg "range" = none) (ha : FE g X Z a fa) (hb : FE g X Z b fb) (hs : starEach [a, b, .UnaryOp .USub (.Constant (.int 1) k p1) p2] X.env = (false, eval a X.env) :: starEach [b, .UnaryOp .USub (.Constant (.int 1) k p1) p2] X.env := by rfl)
    (hs2 : starEach [b, .UnaryOp .USub (.Constant (.int 1) k p1) p2] X.env = (false, eval b X.env) :: starEach [.UnaryOp .USub (.Constant (.int 1) k p1) p2] X.env := by rfl) (hs3 : starEach [.UnaryOp .USub (.Constant (.int 1) k p1) p2] X.env = (false, eval (.UnaryOp .USub (.Constant (.int 1) k p1) p2) X.env) :: starEach [] X.env := by rfl)
    (hpl : (backTo pos (starEach [b, .UnaryOp .USub (.Constant (.int 1) k p1) p2] X.env)).any (·.1) = false := by rfl) :
    FI g X Z tg (.Call (.Name "range" p) [a, b, .UnaryOp .USub (.Constant (.int 1) k p1) p2] [] pos) (rngD fa fb) :=
  pi_imp (pi_range3 hg hm (pa_cons ha (pa_cons hb (pa_cons (pe_un un_neg pe_int) pa_nil hs3) hs2) hs) hs hpl) fun σ H Q ⟨C, F, ρ, R, P⟩ => post_bind R P fun F1 H1 ρ1 w v s1 R1 r1 n1 P1 => post_bind R1 P1 fun F2 H2 ρ2 u v2 s2 R2 r2 n2 P2 => by
    split at P2
    · rename_i i j
      split at P2
      · rename_i hc
        cases r1; cases r2
        exact ⟨1, rfl, i, j, -1, (i - j).toNat, rfl, RgC.neg hc.1 hc.2.1 hc.2.2.1 hc.2.2.2, P2 F2 H2 (Same.refl F2) R2 _ jok_rangeC⟩
      · exact P2.elim
    · exact P2.elim
end
theorem tabB_ext {b b' : Heap} {mg : Str → Option Value} {c P : Addr} (e : BExt b b') (t : LamX.TabB b mg c P) : LamX.TabB b' mg c P := ⟨t.code.keeps e, t.bm.keeps e, t.gP⟩
end FX
namespace FX
open PySem PySem.Spec PyProof.Rows L2

/-! ### zip of a tuple and a list -/
abbrev zmH1 (h : Heap) (a : Addr) : Heap := h.push { cls := .type "tuple_iterator", data := .fields #[.ref a, .int 0 0] }
abbrev zmH2 (h : Heap) (a b : Addr) : Heap := (zmH1 h a).push { cls := .type "list_iterator", data := .fields #[.ref b, .int 0 0] }
abbrev zmH3 (h : Heap) (a b : Addr) : Heap := (zmH2 h a b).push { cls := .type "tuple", data := .seq #[.ref h.objs.size, .ref (zmH1 h a).objs.size] }
abbrev zmH4 (h : Heap) (a b : Addr) : Heap := (zmH3 h a b).push { cls := .type "tuple", data := .seq #[.none, .none] }
abbrev zmH5 (h : Heap) (a b : Addr) : Heap := (zmH4 h a b).push { cls := .type "zip", data := .fields #[.none, .bool false, .bool false, .ref (zmH2 h a b).objs.size, .ref (zmH3 h a b).objs.size] }
theorem meets_zipM (a b : Addr) (xs ys : Array Value) : Meets (Builtin.«zip.__new__» ⟨[.type "zip", .ref a, .ref b], []⟩) (fun _ R s => s.heap.IsTuple a xs ∧ s.heap.IsList b ys ∧ R (.ok (.ret (.ref (zmH4 s.heap a b).objs.size))) { s with heap := zmH5 s.heap a b }) :=
  .of_wp fun prog w A R s h => by
    obtain ⟨hp, g, d, tk, os⟩ := s
    obtain ⟨k1, k2, h⟩ := h
    have hsub := sub_zip
    have q1 : Heap.IsTuple (Shared.heap ⟨hp, g, d, tk, os⟩) a xs := k1
    have q2 : Heap.IsList (Shared.heap ⟨hp.push { cls := .type "tuple_iterator", data := .fields #[.ref a, .int 0 0] }, g, d, tk, os⟩) b ys := Heap.IsList.push k2 _
    wp_walk using wpAny_pyIter_tuple q1, wpAny_pyIter_list q2
    exact ⟨_, rfl, h⟩
section
variable {prog : Program} {w : World} {A : Around} {E : Value → Shared → Prop} {s : Shared}
theorem call_zipM {a b : Addr} {xs ys : Array Value} {Q : Value → Shared → Prop} (k1 : s.heap.IsTuple a xs) (k2 : s.heap.IsList b ys)
    (h : ∀ h', IsZip h' (s.heap.objs.size + 4) (s.heap.objs.size + 2) (s.heap.objs.size + 3) .none → IsPair h' (s.heap.objs.size + 2) (.ref s.heap.objs.size) (.ref (s.heap.objs.size + 1)) → IsPair h' (s.heap.objs.size + 3) .none .none → h'.IsTupleIter s.heap.objs.size a 0 → h'.IsListIter (s.heap.objs.size + 1) b 0 →
      (∀ c o, s.heap.get? c = some o → h'.get? c = some o) → Q (.ref (s.heap.objs.size + 4)) { s with heap := h' }) : wpAny (model prog w) A (call (.type "zip") [.ref a, .ref b]) Q E s := by
  refine callType_new F.called_zip (by decide) (F.typeCall_zip_2 _ _) (F.newCall_zip_2 _ _) (fun obj => F.args_object_init_3 obj _ _) F.entry_zip_new (meets_zipM a b xs ys) ⟨k1, k2, ?_⟩
  have z1 : (zmH1 s.heap a).objs.size = s.heap.objs.size + 1 := Heap.size_push ..
  have z2 : (zmH2 s.heap a b).objs.size = s.heap.objs.size + 2 := by rw [Heap.size_push, z1]
  have z3 : (zmH3 s.heap a b).objs.size = s.heap.objs.size + 3 := by rw [Heap.size_push, z2]
  have z4 : (zmH4 s.heap a b).objs.size = s.heap.objs.size + 4 := by rw [Heap.size_push, z3]
  have up := fun {h : Heap} {o : Obj} {c : Addr} {u : Obj} (q : h.get? c = some u) => Heap.get?_push_of_some o q
  have g5 : (zmH5 s.heap a b).get? (zmH4 s.heap a b).objs.size = some _ := Heap.get?_push_size _ rfl
  have g4 : (zmH5 s.heap a b).get? (zmH3 s.heap a b).objs.size = some _ := up (Heap.get?_push_size _ rfl)
  have g3 : (zmH5 s.heap a b).get? (zmH2 s.heap a b).objs.size = some _ := up (up (Heap.get?_push_size _ rfl))
  have g2 : (zmH5 s.heap a b).get? (zmH1 s.heap a).objs.size = some _ := up (up (up (Heap.get?_push_size _ rfl)))
  have g1 : (zmH5 s.heap a b).get? s.heap.objs.size = some _ := up (up (up (up (Heap.get?_push_size _ rfl))))
  show _ ∧ _
  rw [z2, z3, z4] at g5
  rw [z1, z2] at g3
  rw [z3] at g4
  rw [z1] at g2
  rw [z4]
  exact ⟨⟨_, g5, rfl⟩, h _ g5 g3 g4 ⟨_, g1, rfl, rfl⟩ ⟨_, g2, rfl, rfl⟩ fun c o x => up (up (up (up (up x))))⟩
end
/-- the tuple at a and the list at b as they stand at each turn -/
def ItzM (K : PySem.W.Frag) (a b : Addr) : It :=
  ⟨fun i H => ∃ (xs ys : List V) (x y : V), SqT K H a xs ∧ SqL K H b ys ∧ xs[i]? = some x ∧ ys[i]? = some y,
    fun i H v H' => ∃ T x y, v = .ref T ∧ H T = none ∧ H' = upd H T (.tup [x, y]) ∧ (∀ xs, SqT K H a xs → xs[i]? = some x) ∧ ∀ ys, SqL K H b ys → ys[i]? = some y,
    fun i H => ∃ xs ys : List V, SqT K H a xs ∧ SqL K H b ys ∧ (xs.length ≤ i ∨ ys.length ≤ i)⟩
theorem fiveZ {c z TI TO i1 i2 : Addr} (h : c ∈ [z, TI, TO, i1, i2]) : c = z ∨ c = TI ∨ c = TO ∨ c = i1 ∨ c = i2 := by simpa using h
theorem sep_of {z TI TO i1 i2 a b : Addr} (D : ZipApart z TI TO i1 i2 a b) : ZipSep2 z TI TO i1 i2 [i1, a] [i2, b] where
  TIz := D.TIz
  TOz := D.TOz
  TITO := D.TITO
  TIi1 := D.TIi1
  mem1 := by simp
  zf1 := by simp [D.i1z.symm, D.l1z.symm]
  Tf1 := by simp [D.TOi1, D.l1TO.symm]
  TIi2 := D.TIi2
  mem2 := by simp
  zf2 := by simp [D.i2z.symm, D.l2z.symm]
  Tf2 := by simp [D.TOi2, D.l2TO.symm]
  sep1_2 := by simp [D.i12, D.l2i1.symm]
  sep2_1 := by simp [D.i12.symm, D.l1i2.symm]
theorem tup_draws {prog : Program} {w : World} {A : Around} (hh : A.handled = none) {it t : Addr} (hne : t ≠ it) {items : Array Value} {h : Heap} {i : Nat} (h1 : h.IsTupleIter it t i) (h2 : h.IsTuple t items) :
    ∃ n P St, Draws prog w A it [it, t] n P St ∧ St i h ∧ i ≤ n ∧ (items.size ≤ i → i = n) := by
  by_cases hi : i ≤ items.size
  · exact ⟨_, _, _, Draws.tuple hh it t hne items, ⟨h1, h2⟩, hi, fun z => by omega⟩
  · refine ⟨i, fun _ _ => False, fun j h => j = i ∧ h.IsTupleIter it t i ∧ h.IsTuple t items, ⟨fun _ _ ⟨_, ⟨o, ho, _⟩, _⟩ => ⟨o, ho⟩, fun _ _ _ ⟨e, a, b⟩ hk => ⟨e, a.at fun o e => hk it (by simp) o e, b.at fun o e => hk t (by simp) o e⟩, fun j s Q E hj ⟨e, _⟩ _ => absurd hj (by omega), fun s Q E ⟨_, a, b⟩ hE => wpAny_nextOf_tuple_end hh a b (by simp; omega) hE⟩, ⟨rfl, h1, h2⟩, Nat.le_refl _, fun _ => rfl⟩
theorem lst_draws {prog : Program} {w : World} {A : Around} (hh : A.handled = none) {it t : Addr} (hne : t ≠ it) {items : Array Value} {h : Heap} {i : Nat} (h1 : h.IsListIter it t i) (h2 : h.IsList t items) :
    ∃ n P St, Draws prog w A it [it, t] n P St ∧ St i h ∧ i ≤ n ∧ (items.size ≤ i → i = n) := by
  by_cases hi : i ≤ items.size
  · exact ⟨_, _, _, Draws.list hh it t hne items, ⟨h1, h2⟩, hi, fun z => by omega⟩
  · refine ⟨i, fun _ _ => False, fun j h => j = i ∧ h.IsListIter it t i ∧ h.IsList t items, ⟨fun _ _ ⟨_, ⟨o, ho, _⟩, _⟩ => ⟨o, ho⟩, fun _ _ _ ⟨e, a, b⟩ hk => ⟨e, a.at fun o e => hk it (by simp) o e, b.at fun o e => hk t (by simp) o e⟩, fun j s Q E hj ⟨e, _⟩ _ => absurd hj (by omega), fun s Q E ⟨_, a, b⟩ hE => wpAny_nextOf_list_end hh a b (by simp; omega) hE⟩, ⟨rfl, h1, h2⟩, Nat.le_refl _, fun _ => rfl⟩
theorem turn_zipM {P : Program} {w : World} {K : PySem.W.Frag} {elts : List Expr} {kk : Nat} {tpos : Pos} {a b z TI TO i1 i2 : Addr} (D : ZipApart z TI TO i1 i2 a b) :
    Turn P w K (.Tuple elts kk tpos) (ItzM K a b) [z, TI, TO, i1, i2] z (fun i h => IsZip h z TI TO .none ∧ IsPair h TI (.ref i1) (.ref i2) ∧ (∃ x y, IsPair h TO x y) ∧ h.IsTupleIter i1 a i ∧ h.IsListIter i2 b i) where
  mem := by simp
  obj := fun i h ⟨hz, hTI, ⟨x, y, hTO⟩, ⟨o1, e1, _, d1⟩, ⟨o2, e2, _, d2⟩⟩ c hc => by
    rcases fiveZ hc with rfl | rfl | rfl | rfl | rfl
    · exact ⟨_, hz, fun v q => nomatch q⟩
    · exact ⟨_, hTI, fun v q => nomatch q⟩
    · exact ⟨_, hTO, fun v q => nomatch q⟩
    · exact ⟨o1, e1, fun v q => by rw [d1] at q; cases q⟩
    · exact ⟨o2, e2, fun v q => by rw [d2] at q; cases q⟩
  keep := fun i h h' ⟨hz, hTI, ⟨x, y, hTO⟩, h1, h2⟩ k => ⟨k z (by simp) _ hz, k TI (by simp) _ hTI, ⟨x, y, k TO (by simp) _ hTO⟩, h1.at fun o q => k i1 (by simp) o q, h2.at fun o q => k i2 (by simp) o q⟩
  item := by
    intro X hP hw hK hc i pins s σ H E I hf ⟨hz, hTI, ⟨x0, y0, hTO⟩, h1, h2⟩ ⟨xs, ys, x, y, hqx, hqy, hx, hy⟩
    subst hP hw hK
    obtain ⟨its, rv, p, _⟩ := I.tuple hqx
    obtain ⟨its2, rv2, p2, _⟩ := I.list hqy
    obtain ⟨u, hu, ru⟩ := rv.get hx
    obtain ⟨u2, hu2, ru2⟩ := rv2.get hy
    have hzl : z < s.heap.objs.size := Heap.lt_size hz
    have hh : X.A.in1.handled = none := I.ok.hd hc
    refine wpAny_pyNext_zipD2_item (sep_of D) (Draws.tuple hh i1 a D.l1i1 its.toArray) (Draws.list hh i2 b D.l2i2 its2.toArray) hz hTI hTO ⟨h1, p⟩ ⟨h2, p2.isList⟩ (by simpa using (List.getElem?_eq_some_iff.mp hu).1) (by simpa using (List.getElem?_eq_some_iff.mp hu2).1) fun x1 x2 h' tk y1 y2 z' TO' st1 st2 hT hsz hk => ?_
    have e1 : x1 = u := by
      have y1 : its.toArray[i]? = some x1 := y1
      rw [List.getElem?_toArray, hu] at y1
      exact (Option.some.inj y1).symm
    have e2 : x2 = u2 := by
      have y2 : its2.toArray[i]? = some x2 := y2
      rw [List.getElem?_toArray, hu2] at y2
      exact (Option.some.inj y2).symm
    subst e1 e2
    refine ⟨_, rfl, wpAny_letOwnedTupleGo_zip (s := { s with heap := h', toks := tk }) z' fun h'' z'' sb => ?_⟩
    have hT2 : h''.get? s.heap.objs.size = some { cls := .type "tuple", data := .seq #[x1, x2] } := (sb.2 _ (Nat.ne_of_gt hzl)).trans hT
    have new : ObjOk X.prog X.w (upd H s.heap.objs.size (.tup [x, y])) h'' s.heap.objs.size (.tup [x, y]) := ⟨by show 2 ≤ sizeLine; decide, [x1, x2], .cons ru (.cons ru2 .nil), ⟨_, hT2, rfl, _, rfl⟩⟩
    have I1 : Inv X pins σ (upd H s.heap.objs.size (.tup [x, y])) { s with heap := h'', toks := tk } :=
      I.turnedNew (t' := tk) (ch := [z, TI, TO, i1, i2]) (fun c o hb q => (sb.2 c (fun q' => hb (by simp [q']))).trans (hk c o (fun q' => hb (by simp [q'])) (fun q' => hb (by simp [q'])) (fun q' => hb (by simp [q'])) (fun q' => hb (by simp [q'])) q)) hf (Nat.le_refl _) new
    refine ⟨.ref s.heap.objs.size, _, I1, rfl, ⟨_, x, y, rfl, I.hok.fresh (Nat.le_refl _), rfl, fun l hl => by rw [I.tuple_inj hl hqx]; exact hx, fun l hl => by rw [I.list_inj hl hqy]; exact hy⟩, ⟨z'', ?_, ⟨x1, x2, ?_⟩, ?_, ?_⟩, fun c hcm => ?_⟩
    · exact (sb.2 _ D.TIz).trans (hk _ _ D.TIz D.TITO D.TIi1 D.TIi2 hTI)
    · exact (sb.2 _ D.TOz).trans TO'
    · exact st1.1.at fun o q => (sb.2 _ D.i1z).trans q
    · exact st2.1.at fun o q => (sb.2 _ D.i2z).trans q
    · have hlt : c < s.heap.objs.size := by
        rcases fiveZ hcm with rfl | rfl | rfl | rfl | rfl
        · exact hzl
        · exact Heap.lt_size hTI
        · exact Heap.lt_size hTO
        · obtain ⟨_, e1, _⟩ := h1; exact Heap.lt_size e1
        · obtain ⟨_, e2, _⟩ := h2; exact Heap.lt_size e2
      rw [upd_ne (Nat.ne_of_lt hlt)]
      exact (hf c hcm).1
  done := by
    intro X hP hw hK hc i pins s σ H E I hf ⟨hz, hTI, ⟨x0, y0, hTO⟩, h1, h2⟩ ⟨xs, ys, hqx, hqy, hend⟩
    subst hP hw hK
    obtain ⟨its, rv, p, _⟩ := I.tuple hqx
    obtain ⟨its2, rv2, p2, _⟩ := I.list hqy
    have l1 := rv.length
    have l2 := rv2.length
    have hh : X.A.in1.handled = none := I.ok.hd hc
    obtain ⟨n1, P1, St1, D1, s1, le1, en1⟩ := tup_draws (prog := X.prog) (w := X.w) hh D.l1i1 h1 p
    obtain ⟨n2, P2, St2, D2, s2, le2, en2⟩ := lst_draws (prog := X.prog) (w := X.w) hh D.l2i2 h2 p2.isList
    refine wpAny_pyNext_zipD2_end (sep_of D) D1 D2 hz hTI hTO s1 s2 le1 le2 (hend.elim (fun q => .inl (en1 (by simp; omega))) fun q => .inr (en2 (by simp; omega))) fun h' tk hk => ⟨rfl, I.turnedL (t' := tk) (ch := [z, TI, TO, i1, i2]) (fun c o hb q => ?_) hf⟩
    exact hk c o (fun q' => hb (by simp [q'])) (fun q' => hb (by simp [q'])) (fun q' => hb (by simp [q'])) (fun q' => hb (by simp [q'])) q
  self := fun A i s Q E st h => wpAny_pyIter_zip st.1 h
def iZipM (K : PySem.W.Frag) (ta : TA) : TI := fun σ H R => ta σ H fun vs H1 => ∃ a b xs ys, vs = [.ref a, .ref b] ∧ SqT K H1 a xs ∧ SqL K H1 b ys ∧ R (ItzM K a b) H1
theorem pi_zipM {X : Cx} {e e2 : Expr} {ta : TA} {p pos tpos : Pos} {elts : List Expr} {kk : Nat} (hg : Gl X "zip") (hm : X.mg "zip" = none) (ha : PA X [e, e2] ta) (hs : starEach [e, e2] X.env = (false, eval e X.env) :: starEach [e2] X.env := by rfl)
    (hpl : (backTo pos (starEach [e2] X.env)).any (·.1) = false := by rfl) : PI X (.Tuple elts kk tpos) (.Call (.Name "zip" p) [e, e2] [] pos) (iZipM X.K ta) := ⟨fun pins s σ H R I h => by
  refine Call_ (ld_blt I hg hm PyProof.Rows.boot_zip (PyProof.Rows.callWith_type1 (thn (ha.run pos pins s σ H _ I h) fun us s1 ⟨vs, H1, I1, r1, a, b, xs, ys, ex, hqx, hqy, q⟩ => ?_) hs hpl))
  subst ex
  cases r1 with | cons r rr =>
  cases rr with | cons r' rr =>
  cases rr
  cases r
  cases r'
  have fr : ∀ c, c ∈ [s1.heap.objs.size + 4, s1.heap.objs.size + 2, s1.heap.objs.size + 3, s1.heap.objs.size, s1.heap.objs.size + 1] → FpOk X pins H1 c := fun c hcm => by
    have hle : s1.heap.objs.size ≤ c := by rcases fiveZ hcm with rfl | rfl | rfl | rfl | rfl <;> omega
    exact I1.fpOk hle (I1.hok.fresh hle)
  obtain ⟨its, rv, p1, _⟩ := I1.tuple hqx
  obtain ⟨its2, rv2, p2, _⟩ := I1.list hqy
  obtain ⟨o1, ho1, _⟩ := id p1
  refine call_zipM (show s1.heap.IsTuple a its.toArray from p1) p2.isList fun h' hz hTI hTO h1 h2 hk => wpAny_pyIter_zip hz ?_
  have I2 : Inv X pins σ H1 { s1 with heap := h' } := I1.kept (t' := s1.toks) hk
  exact ⟨s1.heap.objs.size + 4, [s1.heap.objs.size + 4, s1.heap.objs.size + 2, s1.heap.objs.size + 3, s1.heap.objs.size, s1.heap.objs.size + 1], _, _, H1, rfl, I2, turn_zipM (PySem.W.ktu_apart s1.heap.objs.size a b (Heap.lt_size ho1) p2.lt), ⟨hz, hTI, ⟨_, _, hTO⟩, h1, h2⟩, fr, q⟩⟩
/-- zip of two lists, of two tuples, of a tuple and a list -/
def zip3I (fs : Av) : Iv := bindA fs fun ws ρ => match grabs ws ρ with
  | some ([.lst l, .lst m], ρ') => .ok (List.zipWith (fun a b => .tup [a, b]) l m) ρ'
  | some ([.tup l, .tup m], ρ') => .ok (List.zipWith (fun a b => .tup [a, b]) l m) ρ'
  | some ([.tup l, .lst m], ρ') => .ok (List.zipWith (fun a b => .tup [a, b]) l m) ρ'
  | _ => .bad
section
variable {g : G} {C : RC} {F H : Hp} {ρ ρ' : Rho} {σ : St} {Z : WX} {X : Cx} {e e2 : Expr} {fs : Av} {p pos tpos : Pos} {elts : List Expr} {kk : Nat}
theorem jok_zipM {a b : Addr} {l m : List D} {xs ys : List V} (h1 : SqT g.K F a xs) (h2 : SqL g.K F b ys) (r1 : RpL g F l xs) (r2 : RpL g F m ys) : JOk g F (ItzM g.K a b) (List.zipWith (fun a b => .tup [a, b]) l m) := fun C F' H' ρ σ s R => by
  have q1 := sqT_same R.sub (sqT_same s h1)
  have q2 := R.sub.seq (s.seq h2)
  refine ⟨fun i d e => ?_, fun i hi => ⟨xs, ys, q1, q2, by rw [List.length_zipWith] at hi; rw [← r1.length, ← r2.length]; omega⟩⟩
  obtain ⟨da, db, e1, e2, rfl⟩ := zipW_get e
  obtain ⟨x, ex, rx⟩ := r1.get e1
  obtain ⟨y, ey, ry⟩ := r2.get e2
  refine ⟨⟨xs, ys, x, y, q1, q2, ex, ey⟩, fun v H2 ⟨T, x2, y2, ev, nT, eH, f1, f2⟩ => ?_⟩
  have := f1 xs q1
  rw [ex] at this; cases this
  have := f2 ys q2
  rw [ey] at this; cases this
  subst ev eH
  obtain ⟨F2, s2, R2, h3⟩ := R.newTup (l := [da, db]) nT (.cons (rx.mono s) (.cons (ry.mono s) .nil))
  exact ⟨F2, s2, R2, h3⟩
theorem zip3I_two {Q : It → Hp → Prop} (h : tI g Z (zip3I fs) σ H Q) : RZ.iZipA g.K (tA g Z fs) σ H Q ∨ iZipM g.K (tA g Z fs) σ H Q := by
  obtain ⟨C, F, ρ, R, P⟩ := h
  unfold zip3I bindA at P
  cases e1 : fs ρ with
  | bad => rw [e1] at P; exact P.elim
  | ex x ρ' => rw [e1] at P; exact .inl ⟨C, F, ρ, R, by rw [e1]; exact P⟩
  | ok ws ρ1 =>
    rw [e1] at P
    simp only at P
    split at P
    · rename_i l m ρ2 e2
      exact .inl (zipI_use ⟨C, F, ρ, R, by unfold zipI bindA; rw [e1]; simp only [e2]; exact P⟩)
    · rename_i l m ρ2 e2
      exact .inl (zipI_use ⟨C, F, ρ, R, by unfold zipI bindA; rw [e1]; simp only [e2]; exact P⟩)
    · rename_i l m ρ2 e2
      refine .inr ⟨C, F, ρ, R, ?_⟩
      rw [e1]
      intro F1 H1 s1 R1 vs rs n
      obtain ⟨F2, v, w, s2, R2, rfl, r1, r2⟩ := two_get R1 rs n e2
      cases r1 with | tup h1 q1 =>
      cases r2 with | lst h2 q2 =>
      exact ⟨_, _, _, _, rfl, sqT_same R2.sub h1, R2.sub.seq (.inl (.inl h2)), P F2 H1 (s1.trans s2) R2 _ (jok_zipM h1 (.inl (.inl h2)) q1 q2)⟩
    · exact P.elim
theorem fi_zip3 (ha : FA g X Z [e, e2] fs) (hg : Gl X "zip" := by rfl) (hm : X.mg "zip" = none := by assumption) (hK : g.K = X.K := by rfl) (hs : starEach [e, e2] X.env = (false, eval e X.env) :: starEach [e2] X.env := by rfl) (hpl : (backTo pos (starEach [e2] X.env)).any (·.1) = false := by rfl) :
    FI g X Z (.Tuple elts kk tpos) (.Call (.Name "zip" p) [e, e2] [] pos) (zip3I fs) := pi_imp (pi_or (RZ.pi_zipA hg hm ha hs hpl) (pi_zipM hg hm ha hs hpl)) fun σ H Q h => by rw [← hK]; exact zip3I_two h
end

/-! ### q.index(k), q a slot's own list of ints -/
def tIdxI (K : PySem.W.Frag) (to te : TE) : TE := fun σ H Q => to σ H fun x H1 => ∃ (p : Addr) (ns : List Int), x = .ref p ∧ SqL K H1 p (ns.map V.int) ∧ te σ H1 fun y H2 => ∃ k : Int, y = .int k ∧ k ∈ ns ∧ SqL K H2 p (ns.map V.int) ∧ Q (.int (ns.idxOf k : Nat)) H2
theorem pe_indexI {X : Cx} {o e : Expr} {to te : TE} {apos cpos : Pos} (ho : PE X o to) (he : PE X e te) (hbase : attributeBase o "index" X.env (eval o X.env) = eval o X.env := by rfl)
    (hfew : ((backTo cpos (starEach [e] X.env)).all (fun x => !x.1) && (backToKw cpos (keywordEach [] X.env)).all (fun x => x.1.isSome) && decide ([e].length + ([] : List Keyword).length + (if ([] : List Keyword).isEmpty then 0 else 1) < 30)) = true := by rfl)
    (hline : (apos.endLine == cpos.line) = true := by rfl) (hs : backTo cpos (starEach [e] X.env) = [(false, eval e X.env)] := by rfl) : PE X (.Call (.Attribute o "index" apos) [e] [] cpos) (tIdxI X.K to te) := by
  refine ⟨fun pins s σ H Q I h => wpAny_Call_method_late hbase hfew hline hs (thn (ho.run pins s σ H _ I h) fun v s1 ⟨x, H1, I1, r1, p, ns, ex, sq, q1⟩ => ?_)⟩
  subst ex
  cases r1
  obtain ⟨its, rv, tp, hz⟩ := I1.list sq
  obtain ⟨o, n, g1, g2, g3, g4⟩ := tp
  refine ⟨"list", "list.index", PySem.F.plainAttrs_list, PySem.F.slot_list_index, PySem.F.type_list_index, ⟨o, g1, g2⟩, fun a e => by cases e; exact ⟨o, g1, g3⟩, ?_⟩
  refine Calls.callWith_builtin rfl (Calls.evalArgs_plain (Calls.spliced_cons (thn (he.run pins s1 σ H1 _ I1 q1) fun iv s2 ⟨y, H2, I2, ry, k, ey, hk, k1, q2⟩ => Calls.spliced_nil ?_)))
  subst ey
  obtain ⟨t, rfl⟩ := ry
  obtain ⟨its2, rv2, tp2, hz2⟩ := I2.list k1
  exact PySem.SeqAt.list_index_ints tp2.isList (RZ.intsAre_vals rv2) (by rw [List.length_map] at hz2; exact hz2) hk ⟨.int _, H2, I2.tok _, ⟨_, rfl⟩, q2⟩
def idxIE (i : Nat) (fe : Ev) : Ev := fun ρ => match ρ[i]? with
  | some (.own _ (.lst l)) => (match asInts l with
    | some ns => bindG fe (fun w ρ => match w, ρ[i]? with
      | .val (.int k), some (.own _ (.lst l')) => if asInts l' = some ns ∧ k ∈ ns then .ok (.val (.int (ns.idxOf k : Nat))) ρ else .bad
      | _, _ => .bad) ρ
    | none => .bad)
  | _ => .bad
section
variable {g : G} {C : RC} {F H : Hp} {ρ ρ' : Rho} {σ : St} {Z : WX} {X : Cx} {e : Expr} {fe : Ev} {z : Str} {p1 apos cpos : Pos}
theorem fe_indexI (i : Nat) (he : FE g X Z e fe) (hN : X.N[i]? = some z := by rfl) (hv : Vis X.env.scope z := by first | exact Or.inl rfl | exact Or.inr (Or.inl rfl) | exact Or.inr (Or.inr rfl)) (hd : (z == ("__debug__" : Str)) = false := by decide) (hcd : (z == ("__classdict__" : Str)) = false := by decide) (hK : X.K = g.K := by rfl)
    (hbase : attributeBase (.Name z p1) "index" X.env (eval (.Name z p1) X.env) = eval (.Name z p1) X.env := by rfl)
    (hfew : ((backTo cpos (starEach [e] X.env)).all (fun x => !x.1) && (backToKw cpos (keywordEach [] X.env)).all (fun x => x.1.isSome) && decide ([e].length + ([] : List Keyword).length + (if ([] : List Keyword).isEmpty then 0 else 1) < 30)) = true := by rfl)
    (hline : (apos.endLine == cpos.line) = true := by rfl) (hs : backTo cpos (starEach [e] X.env) = [(false, eval e X.env)] := by rfl) : FE g X Z (.Call (.Attribute (.Name z p1) "index" apos) [e] [] cpos) (idxIE i fe) :=
  pe_imp (pe_indexI (pe_var hN hv hd hcd) he hbase hfew hline hs) fun σ H Q ⟨C, F, ρ, R, P⟩ => by
    unfold idxIE at P
    split at P
    · rename_i q l e1
      obtain ⟨a, hσ, ⟨vs, h2, h3⟩, _⟩ := R.own _ _ _ e1
      split at P
      · rename_i ns e2
        have ev := asInts_rp h3 e2
        subst ev
        refine ⟨.ref a, hσ, a, ns, rfl, .inl (.inl h2), ?_⟩
        refine post_bind R P fun F1 H1 ρ1 w v s1 R1 r1 n1 P1 => ?_
        split at P1
        · rename_i k q2 l' e3
          split at P1
          · rename_i hc
            obtain ⟨b, o1, ⟨vs2, o2, o3⟩, _⟩ := R1.own _ _ _ e3
            rw [hσ] at o1
            cases o1
            have ev := asInts_rp o3 hc.1
            subst ev
            cases r1
            exact ⟨k, rfl, hc.2, .inl (.inl o2), P1 F1 H1 (Same.refl F1) R1 _ (.int _)⟩
          · exact P1.elim
        · exact P1.elim
      · exact P.elim
    · exact P.elim
end
end FX
namespace FX
open PySem PySem.Spec PyProof.Rows L2

/-! ### any(xs) of a list of bools or of ints -/
theorem intsAre_len : ∀ {us : List Value} {ns : List Int}, IntsAre us ns → us.length = ns.length
  | _, _, .nil => rfl
  | _, _, .cons n t h => by simp [intsAre_len h]
theorem truth_ints {prog : Program} {w : World} {A : Around} {ns : List Int} {its : List Value} (hi : IntsAre its ns) :
    TruthOf prog w A (fun i v => its.toArray[i]? = some v) (fun i => (ns.map fun n => n != 0).getD i false) := fun i v s Q E hv hq => by
  have hv' : its[i]? = some v := by simpa using hv
  have hl := intsAre_len hi
  have hlt : i < ns.length := by
    have := (List.getElem?_eq_some_iff.mp hv').1
    omega
  obtain ⟨t, e⟩ := hi.get i ns[i] (List.getElem?_eq_getElem hlt)
  rw [e] at hv'
  cases hv'
  have hg : (ns.map fun n => n != 0).getD i false = (ns[i] != 0) := by rw [List.getD_eq_getElem?_getD, List.getElem?_map, List.getElem?_eq_getElem hlt]; rfl
  have hq' : Q ((ns.map fun n => n != 0).getD i false) s := hq
  rw [hg] at hq'
  exact P.truthy_int hq'
section
variable {X : Cx} {g : G}
def rAnyI (K : PySem.W.Frag) : List V → Hp → VK → Prop := fun vs H Q => ∃ (a : Addr) (ns : List Int), vs = [V.ref a] ∧ SqL K H a (ns.map V.int) ∧ Q (.bl ((ns.map fun n => n != 0).any id)) H
theorem cr_anyI (hc : X.calm = true) : CallR X (.builtin "any") (rAnyI X.K) := by
  intro pins s σ H vs us Q I r h
  obtain ⟨a, ns, rfl, hs, q⟩ := h
  obtain ⟨its, rv, hl, _⟩ := I.list hs
  rw [Vals.ref1 r]
  have hi := rv.ints
  refine call_any_walk (iter_any hl.isList fun s₂ e2 st hne => ?_)
  subst e2
  refine ⟨_, _, _, _, _, _, _, rfl, Walks.list (A := X.A.in1) (I.ok.hd hc) _ a hne its.toArray, st, truth_ints hi, fun h' tk hk => ?_⟩
  refine ⟨.bl _, H, I.kept fun b o eo => hk b o (fun hmem => ?_) (Heap.get?_push_of_some _ eo), ?_, q⟩
  · rcases List.mem_cons.mp hmem with e1 | hmem
    · exact absurd (e1 ▸ Heap.lt_size eo) (Nat.lt_irrefl _)
    · cases hmem
  · show Value.bool _ = Value.bool _
    rw [← L2.any_range, List.size_toArray, intsAre_len hi, List.length_map]
def rAny2 (K : PySem.W.Frag) : List V → Hp → VK → Prop := fun vs H Q => rAny K vs H Q ∨ rAnyI K vs H Q
theorem cr_any2 (hc : X.calm = true) : CallR X (.builtin "any") (rAny2 X.K) := fun pins s σ H vs us Q I r h => h.elim (cr_any hc pins s σ H vs us Q I r) (cr_anyI hc pins s σ H vs us Q I r)
def anyI := onInts fun ns => vB ((ns.map fun n => n != 0).any _root_.id)
def anyD2 (ds : List D) : Option Wv := match anyD ds with | some w => some w | none => anyI ds
theorem sc_anyI : SemC g (rAnyI g.K) anyI := onInts_use fun C F H ρ σ a ns w Q R hs e P => by
  cases e
  exact ⟨a, ns, rfl, hs, P F H (Same.refl F) R _ (.bl _)⟩
theorem sc_any2 : SemC g (rAny2 g.K) anyD2 := by
  intro C F H ρ σ ds vs w Q R rs e P
  unfold anyD2 at e
  split at e
  · rename_i w' h
    cases e
    exact .inl (sc_any C F H ρ σ ds vs w Q R rs h P)
  · exact .inr (sc_anyI C F H ρ σ ds vs w Q R rs e P)
end
end FX
namespace FX
open PySem PySem.Spec PyProof.Rows L2

/-! ### enumerate over a tuple -/
theorem meets_enumT (l : Addr) (items : Array Value) :
    Meets (Builtin.«enumerate.__new__» ⟨[.type "enumerate", .ref l], []⟩) (fun _ R s => s.heap.IsTuple l items ∧
      R (.ok (.ret (.ref (s.heap.push { cls := .type "tuple_iterator", data := .fields #[.ref l, .int 0 0] }).objs.size)))
        { s with heap := (s.heap.push { cls := .type "tuple_iterator", data := .fields #[.ref l, .int 0 0] }).push { cls := .type "enumerate", data := .fields #[.none, .bool false, .ref s.heap.objs.size, rawInt 0, .none, .none] } }) :=
  .of_wp fun prog w A R s h => by
    obtain ⟨hp, g, d, tk, os⟩ := s
    obtain ⟨hl, h⟩ := h
    have hsub := sub_enumerate
    have hL : Heap.IsTuple (Shared.heap ⟨hp, g, d, tk, os⟩) l items := hl
    wp_walk using wpAny_pyIter_tuple hL
    refine wpAny_stack_any fun st => wpAny_pure ?_
    split
    · rename_i c _ _ _ _ _
      cases (c == Value.type "enumerate")
      · wp_walk using wpAny_pyIter_tuple hL
        exact ⟨_, rfl, h⟩
      · wp_walk using wpAny_pyIter_tuple hL
        exact ⟨_, rfl, h⟩
    · wp_walk using wpAny_pyIter_tuple hL
      exact ⟨_, rfl, h⟩
section
variable {prog : Program} {w : World} {A : Around} {E : Value → Shared → Prop} {s : Shared}
theorem call_enumT {l : Addr} {items : Array Value} {Q : Value → Shared → Prop} (hL : s.heap.IsTuple l items)
    (h : ∀ h', IsEnum h' (s.heap.objs.size + 1) s.heap.objs.size 0 .none → h'.IsTupleIter s.heap.objs.size l 0 → h'.objs.size = s.heap.objs.size + 2 →
      (∀ b o, s.heap.get? b = some o → h'.get? b = some o) → Q (.ref (s.heap.objs.size + 1)) { s with heap := h' }) :
    wpAny (model prog w) A (call (.type "enumerate") [.ref l]) Q E s := by
  refine callType_new F.called_enumerate (by decide) (F.typeCall_enumerate_1 _) (F.newCall_enumerate_1 _) (fun obj => F.args_object_init_2 obj _) F.entry_enumerate_new
    (meets_enumT l items) ⟨hL, ?_⟩
  have hz : (s.heap.push { cls := .type "tuple_iterator", data := .fields #[.ref l, .int 0 0] }).objs.size = s.heap.objs.size + 1 := Heap.size_push ..
  show _ ∧ _
  rw [hz]
  have he : IsEnum ((s.heap.push { cls := .type "tuple_iterator", data := .fields #[.ref l, .int 0 0] }).push
      { cls := .type "enumerate", data := .fields #[.none, .bool false, .ref s.heap.objs.size, rawInt 0, .none, .none] }) (s.heap.objs.size + 1) s.heap.objs.size 0 .none := by
    have := Heap.get?_push_size (s.heap.push { cls := .type "tuple_iterator", data := .fields #[.ref l, .int 0 0] })
      (o := { cls := .type "enumerate", data := .fields #[.none, .bool false, .ref s.heap.objs.size, rawInt 0, .none, .none] }) rfl
    rw [hz] at this; exact this
  refine ⟨⟨_, he, rfl⟩, h _ he ⟨_, Heap.get?_push_of_some _ (Heap.get?_push_size _ rfl), rfl, rfl⟩ (by rw [Heap.size_push, hz]) fun b o x => Heap.get?_push_of_some _ (Heap.get?_push_of_some _ x)⟩
end
/-- the tuple at a, each item in a new pair -/
def IteT (K : PySem.W.Frag) (a : Addr) : It :=
  ⟨fun i H => ∃ (xs : List V) (x : V), SqT K H a xs ∧ xs[i]? = some x, fun i H v H' => ∃ T x, v = .ref T ∧ H T = none ∧ H' = upd H T (.tup [.int (i : Nat), x]) ∧ ∀ xs, SqT K H a xs → xs[i]? = some x, fun i H => ∃ xs : List V, SqT K H a xs ∧ xs.length ≤ i⟩
theorem turn_enumT {P : Program} {w : World} {K : PySem.W.Frag} {elts : List Expr} {kk : Nat} {tpos : Pos} (a e it : Addr) :
    Turn P w K (.Tuple elts kk tpos) (IteT K a) [e, it] e (fun i h => (∃ old, IsEnum h e it ((i : Nat) : Int) old) ∧ h.IsTupleIter it a i ∧ e ≠ it ∧ a ≠ it ∧ a ≠ e) where
  mem := by simp
  obj := fun i h st b hb => by
    obtain ⟨⟨old, he⟩, ⟨o, ho, hc, hd⟩, _⟩ := st
    have e' : b = e ∨ b = it := by simpa using hb
    rcases e' with z | z
    · rw [z]; exact ⟨_, he, fun v q => nomatch q⟩
    · rw [z]; exact ⟨o, ho, fun v q => by rw [hd] at q; cases q⟩
  keep := fun i h h' st k => let ⟨⟨old, he⟩, hi, hne⟩ := st; ⟨⟨old, k e (by simp) _ he⟩, hi.at fun o q => k it (by simp) o q, hne⟩
  item := by
    intro X hP hw hK hc i pins s σ H E I hf st hg
    subst hP hw hK
    obtain ⟨⟨old, he⟩, hit, hne, hai, hae⟩ := st
    obtain ⟨xs, x, hq, hx⟩ := hg
    obtain ⟨its, rv, p, hz⟩ := I.tuple hq
    obtain ⟨u, hu, ru⟩ := rv.get hx
    have hel : e < s.heap.objs.size := Heap.lt_size he
    have hil : it < s.heap.objs.size := by obtain ⟨_, q, _⟩ := hit; exact Heap.lt_size q
    have hh : X.A.in1.handled = none := I.ok.hd hc
    refine wpAny_pyNext_enum_itemC (Draws.tuple hh it a hai its.toArray) he ⟨hit, p⟩ (by simpa using (List.getElem?_eq_some_iff.mp hu).1) hne (by simp [hne, hae.symm]) fun x1 h' tk y1 ho st1 hT hsz hk => ?_
    have e1 : x1 = u := by
      have y1 : its.toArray[i]? = some x1 := y1
      rw [List.getElem?_toArray, hu] at y1
      exact (Option.some.inj y1).symm
    subst e1
    have ho' : IsEnumOut h' e it (((i : Nat) : Int) + 1) x1 s.heap.objs.size := ho
    refine ⟨_, rfl, wpAny_letOwnedTupleGo_enum (s := { s with heap := h', toks := tk + 1 }) ho' fun h'' he' sb => ?_⟩
    have hT2 : h''.get? s.heap.objs.size = some { cls := .type "tuple", data := .seq #[.int i tk, x1] } := (sb.2 _ (Nat.ne_of_gt hel)).trans hT
    have new : ObjOk X.prog X.w (upd H s.heap.objs.size (.tup [.int (i : Nat), x])) h'' s.heap.objs.size (.tup [.int (i : Nat), x]) :=
      ⟨by show 2 ≤ sizeLine; decide, [.int i tk, x1], .cons ⟨_, rfl⟩ (.cons ru .nil), ⟨_, hT2, rfl, _, rfl⟩⟩
    have I1 : Inv X pins σ (upd H s.heap.objs.size (.tup [.int (i : Nat), x])) { s with heap := h'', toks := tk + 1 } :=
      I.turnedNew (ch := [e, it]) (fun b ob hb q => (sb.2 b (fun z => hb (by simp [z]))).trans (hk b ob (fun z => hb (by simp [z])) (fun z => hb (by simp [z])) q)) hf (Nat.le_refl _) new
    refine ⟨.ref s.heap.objs.size, _, I1, rfl, ⟨_, x, rfl, I.hok.fresh (Nat.le_refl _), rfl, fun ys hy => by rw [I.tuple_inj hy hq]; exact hx⟩, ⟨⟨x1, ?_⟩, st1.1.at fun o q => (sb.2 it (Ne.symm hne)).trans q, hne, hai, hae⟩, fun b hb => ?_⟩
    · have e1 : ((i + 1 : Nat) : Int) = (i : Int) + 1 := by omega
      rw [e1]; exact he'
    · have hb' : b < s.heap.objs.size := by
        have e' : b = e ∨ b = it := by simpa using hb
        rcases e' with z | z
        · rw [z]; exact hel
        · rw [z]; exact hil
      rw [upd_ne (Nat.ne_of_lt hb')]
      exact (hf b hb).1
  done := by
    intro X hP hw hK hc i pins s σ H E I hf st hg
    subst hP hw hK
    obtain ⟨⟨old, he⟩, hit, hne, hai, hae⟩ := st
    obtain ⟨xs, hq, hx⟩ := hg
    obtain ⟨its, rv, p, hz⟩ := I.tuple hq
    obtain ⟨f0, f1, f2, f3, f4, f5⟩ := hf it (by simp)
    have hl := rv.length
    have hh : X.A.in1.handled = none := I.ok.hd hc
    obtain ⟨n1, P1, St1, D1, s1, le1, en1⟩ := tup_draws (prog := X.prog) (w := X.w) hh hai hit p
    have en : i = n1 := en1 (by simp; omega)
    subst en
    exact wpAny_pyNext_enum_endD D1 he s1 fun h' eb => ⟨rfl, I.turned (t' := s.toks) (fun b o hb q => eb b o hb q) f0 f1 f3 f4 f5⟩
  self := fun A i s Q E st h => let ⟨⟨_, he⟩, _⟩ := st; wpAny_pyIter_enum he h
def iEnumT (K : PySem.W.Frag) (ta : TA) : TI := fun σ H R => ta σ H fun vs H1 => ∃ a xs, vs = [.ref a] ∧ SqT K H1 a xs ∧ R (IteT K a) H1
theorem pi_enumT {X : Cx} {e : Expr} {ta : TA} {p pos tpos : Pos} {elts : List Expr} {kk : Nat} (hg : Gl X "enumerate") (hm : X.mg "enumerate" = none) (ha : PA X [e] ta) (hs : starEach [e] X.env = [(false, eval e X.env)] := by rfl) :
    PI X (.Tuple elts kk tpos) (.Call (.Name "enumerate" p) [e] [] pos) (iEnumT X.K ta) := by
  refine ⟨fun pins s σ H R I h => ?_⟩
  refine Call_ (ld_blt I hg hm boot_enumerate (PyProof.Rows.callWith_type1 (thn (ha.run pos pins s σ H _ I h) fun us s1 ⟨vs, H1, I1, r1, q1⟩ => ?_) hs rfl))
  obtain ⟨a, xs, ex, hq, q⟩ := q1
  subst ex
  cases r1 with
  | cons r rr =>
    cases rr
    cases r
    obtain ⟨its, rv, p', hz⟩ := I1.tuple hq
    have hal : a < s1.heap.objs.size := by obtain ⟨_, q, _⟩ := id p'; exact Heap.lt_size q
    refine call_enumT (show s1.heap.IsTuple a its.toArray from p') fun h' he hit hsz hk => wpAny_pyIter_enum he ?_
    have I2 : Inv X pins σ H1 { s1 with heap := h' } := I1.kept (t' := s1.toks) hk
    refine ⟨s1.heap.objs.size + 1, [s1.heap.objs.size + 1, s1.heap.objs.size], _, _, H1, rfl, I2, turn_enumT a (s1.heap.objs.size + 1) s1.heap.objs.size, ⟨⟨.none, he⟩, hit, Nat.succ_ne_self _, Nat.ne_of_lt hal, Nat.ne_of_lt (Nat.lt_succ_of_lt hal)⟩, fun b hb => ?_, q⟩
    have e' : b = s1.heap.objs.size + 1 ∨ b = s1.heap.objs.size := by simpa using hb
    have hle : s1.heap.objs.size ≤ b := by
      rcases e' with z | z
      · rw [z]; exact Nat.le_add_right _ _
      · rw [z]; exact Nat.le_refl _
    exact I1.fpOk hle (I1.hok.fresh hle)
/-- enumerate over a list or a tuple -/
def enum2I (f : Ev) : Iv := bindG f fun w ρ => match grab w ρ with
  | some (.lst l, ρ') => .ok (enumL l) ρ'
  | some (.tup l, ρ') => .ok (enumL l) ρ'
  | _ => .bad
section
variable {g : G} {C : RC} {F H : Hp} {ρ ρ' : Rho} {σ : St} {Z : WX} {X : Cx} {e : Expr} {f : Ev} {p pos tpos : Pos} {elts : List Expr} {kk : Nat}
theorem jok_enumT {a : Addr} {l : List D} {xs : List V} (h1 : SqT g.K F a xs) (r1 : RpL g F l xs) : JOk g F (IteT g.K a) (enumL l) := fun C F' H' ρ σ s R => by
  have q1 := sqT_same R.sub (sqT_same s h1)
  refine ⟨fun i d e => ?_, fun i hi => ⟨xs, q1, by rw [enumL, List.length_mapIdx] at hi; rw [← r1.length]; exact hi⟩⟩
  rw [enumL, List.getElem?_mapIdx] at e
  obtain ⟨da, e1, rfl⟩ := Option.map_eq_some_iff.mp e
  obtain ⟨x, ex, rx⟩ := r1.get e1
  refine ⟨⟨xs, x, q1, ex⟩, fun v H2 ⟨T, x2, ev, nT, eH, f1⟩ => ?_⟩
  have := f1 xs q1
  rw [ex] at this; cases this
  subst ev eH
  obtain ⟨F2, s2, R2, h3⟩ := R.newTup (l := [.int (i : Nat), da]) nT (.cons (.int _) (.cons (rx.mono s) .nil))
  exact ⟨F2, s2, R2, h3⟩
theorem enum2_two {K : PySem.W.Frag} {Q : It → Hp → Prop} (hK : g.K = K) (h : tI g Z (enum2I f) σ H Q) : iEnum K (tA g Z (consA f nilA)) σ H Q ∨ iEnumT K (tA g Z (consA f nilA)) σ H Q := by
  obtain ⟨C, F, ρ, R, P⟩ := h
  subst hK
  unfold enum2I bindG at P
  cases e1 : f ρ with
  | bad => rw [e1] at P; exact P.elim
  | ex x ρ' => rw [e1] at P; exact .inl ⟨C, F, ρ, R, by unfold consA bindG; rw [e1]; exact P⟩
  | ok w ρ1 =>
    simp only [e1] at P
    cases e2 : fzW w with
    | none => simp only [e2] at P; exact P.elim
    | some w' =>
      simp only [e2] at P
      cases e3 : grab w' ρ1 with
      | none => simp only [e3] at P; exact P.elim
      | some q =>
        obtain ⟨d, ρ2⟩ := q
        simp only [e3] at P
        have st : ∀ (Q' : List V → Hp → Prop), (∀ F1 H1 (vs : List V), Same F F1 → Rel g C F1 H1 ρ1 σ → Paired (RpW g C F1 H1 ρ1 σ) [w'] vs → Q' vs H1) → tA g Z (consA f nilA) σ H Q' := fun Q' hQ => ⟨C, F, ρ, R, by
          unfold consA bindG
          simp only [e1, e2]
          show postA g C F σ Z _ (.ok [w'] ρ1)
          intro F1 H1 s1 R1 vs rs n
          exact hQ F1 H1 vs s1 R1 rs⟩
        cases d <;> first | exact P.elim | skip
        · right
          refine st _ fun F1 H1 vs s1 R1 rs => ?_
          cases rs with | cons r1 rs =>
          cases rs
          obtain ⟨F2, s2, R2, r2⟩ := grab_ok R1 r1 e3
          cases r2 with | tup h1 q1 =>
          exact ⟨_, _, rfl, sqT_same R2.sub h1, P F2 H1 (s1.trans s2) R2 _ (jok_enumT h1 q1)⟩
        · left
          refine st _ fun F1 H1 vs s1 R1 rs => ?_
          cases rs with | cons r1 rs =>
          cases rs
          obtain ⟨F2, s2, R2, r2⟩ := grab_ok R1 r1 e3
          cases r2 with | lst h1 q1 =>
          exact ⟨_, _, rfl, R2.sub.seq (.inl (.inl h1)), P F2 H1 (s1.trans s2) R2 _ (jok_enum (.inl (.inl h1)) q1)⟩
theorem fi_enum2 (he : FE g X Z e f) (hg : Gl X "enumerate" := by rfl) (hm : X.mg "enumerate" = none := by assumption) (hK : g.K = X.K := by rfl) (hs : starEach [e] X.env = [(false, eval e X.env)] := by rfl) :
    FI g X Z (.Tuple elts kk tpos) (.Call (.Name "enumerate" p) [e] [] pos) (enum2I f) := pi_imp (pi_or (pi_enum hg hm (fa_cons he fa_nil hs) hs) (pi_enumT hg hm (fa_cons he fa_nil hs) hs)) fun σ H Q h => enum2_two hK h
end
end FX
namespace FX
open PySem PySem.Spec PyProof.Rows L2
/-- a body that is never asked -/
abbrev neverS : Sv := fun _ => .bad
theorem x_upper {a : Str} : upperD (.str a) = if a.length ≤ 5592405 then some (.val (.str (Txt.upper a))) else none := rfl
end FX
namespace LW
open PySem PySem.Spec PyProof.Rows L2 FX
def errs : List Str := ["InvalidBase", "InvalidTrick", "InvalidNumber", "InvalidLength", "InvalidWish", "InvalidThing", "InvalidBy", "InvalidIndex", "InvalidStep", "NotWhole", "Unlike", "Broken", "NoTrick", "NoText", "NothingToUndo"]
def clss : List Str := errs ++ (["TooMany"] : List Str)
def top (i : Nat) : Stmt := PySem.Challenge.pw_thinkfigures_k17_spoilt_texts.main.body.getD i (.Pass ⟨0, 0, 0, 0⟩)
def d_is_int : He.DefD := ⟨("is_int", none), "is_int", "is_int", defArgs (top 22), defBody (top 22), defScope (top 22), [], []⟩
def d_is_thing : He.DefD := ⟨("is_thing", none), "is_thing", "is_thing", defArgs (top 23), defBody (top 23), defScope (top 23), [], []⟩
def d_is_step : He.DefD := ⟨("is_step", none), "is_step", "is_step", defArgs (top 24), defBody (top 24), defScope (top 24), [], []⟩
def d_is_end : He.DefD := ⟨("is_end", none), "is_end", "is_end", defArgs (top 25), defBody (top 25), defScope (top 25), [], []⟩
def d_shared_by : He.DefD := ⟨("shared_by", none), "shared_by", "shared_by", defArgs (top 26), defBody (top 26), defScope (top 26), [], []⟩
def d_is_trick : He.DefD := ⟨("is_trick", none), "is_trick", "is_trick", defArgs (top 27), defBody (top 27), defScope (top 27), [], []⟩
def d_line_of : He.DefD := ⟨("line_of", none), "line_of", "line_of", defArgs (top 30), defBody (top 30), defScope (top 30), [], []⟩
def d_text_of : He.DefD := ⟨("text_of", none), "text_of", "text_of", defArgs (top 31), defBody (top 31), defScope (top 31), [], []⟩
def d_item_in : He.DefD := ⟨("item_in", none), "item_in", "item_in", defArgs (top 32), defBody (top 32), defScope (top 32), [], []⟩
def d_items_in : He.DefD := ⟨("items_in", none), "items_in", "items_in", defArgs (top 33), defBody (top 33), defScope (top 33), [], []⟩
def d_trick_in : He.DefD := ⟨("trick_in", none), "trick_in", "trick_in", defArgs (top 34), defBody (top 34), defScope (top 34), [], []⟩
def d_read_trick : He.DefD := ⟨("read_trick", none), "read_trick", "read_trick", defArgs (top 35), defBody (top 35), defScope (top 35), [], []⟩
def d__law_sack : He.DefD := ⟨("_law_sack", none), "_law_sack", "_law_sack", defArgs (top 37), defBody (top 37), defScope (top 37), [], []⟩
def d__law_grab : He.DefD := ⟨("_law_grab", none), "_law_grab", "_law_grab", defArgs (top 38), defBody (top 38), defScope (top 38), [], []⟩
def d__law_any : He.DefD := ⟨("_law_any", none), "_law_any", "_law_any", defArgs (top 39), defBody (top 39), defScope (top 39), [], []⟩
def d__law_words : He.DefD := ⟨("_law_words", none), "_law_words", "_law_words", defArgs (top 40), defBody (top 40), defScope (top 40), [], []⟩
def d__law_step : He.DefD := ⟨("_law_step", none), "_law_step", "_law_step", defArgs (top 41), defBody (top 41), defScope (top 41), [], []⟩
def d__law_product : He.DefD := ⟨("_law_product", none), "_law_product", "_law_product", defArgs (top 42), defBody (top 42), defScope (top 42), [], []⟩
def d__law_trick : He.DefD := ⟨("_law_trick", none), "_law_trick", "_law_trick", defArgs (top 43), defBody (top 43), defScope (top 43), [], []⟩
def d__law_tail : He.DefD := ⟨("_law_tail", none), "_law_tail", "_law_tail", defArgs (top 44), defBody (top 44), defScope (top 44), [], []⟩
def d__law_is_whole : He.DefD := ⟨("_law_is_whole", none), "_law_is_whole", "_law_is_whole", defArgs (top 45), defBody (top 45), defScope (top 45), [], []⟩
def d__law_is_step : He.DefD := ⟨("_law_is_step", none), "_law_is_step", "_law_is_step", defArgs (top 46), defBody (top 46), defScope (top 46), [], []⟩
def d__law_is_end : He.DefD := ⟨("_law_is_end", none), "_law_is_end", "_law_is_end", defArgs (top 47), defBody (top 47), defScope (top 47), [], []⟩
def d__law_is_trick : He.DefD := ⟨("_law_is_trick", none), "_law_is_trick", "_law_is_trick", defArgs (top 48), defBody (top 48), defScope (top 48), [], []⟩
def d__law_stuff : He.DefD := ⟨("_law_stuff", none), "_law_stuff", "_law_stuff", defArgs (top 49), defBody (top 49), defScope (top 49), [], []⟩
def d__law_kinds : He.DefD := ⟨("_law_kinds", none), "_law_kinds", "_law_kinds", defArgs (top 50), defBody (top 50), defScope (top 50), [], []⟩
def d__law_call : He.DefD := ⟨("_law_call", none), "_law_call", "_law_call", defArgs (top 51), defBody (top 51), defScope (top 51), [], []⟩
def d__law_text_of : He.DefD := ⟨("_law_text_of", none), "_law_text_of", "_law_text_of", defArgs (top 52), defBody (top 52), defScope (top 52), [], []⟩
def d__law_item : He.DefD := ⟨("_law_item", none), "_law_item", "_law_item", defArgs (top 53), defBody (top 53), defScope (top 53), [], []⟩
def d__law_due : He.DefD := ⟨("_law_due", none), "_law_due", "_law_due", defArgs (top 54), defBody (top 54), defScope (top 54), [], []⟩
def d__law_spoil : He.DefD := ⟨("_law_spoil", none), "_law_spoil", "_law_spoil", defArgs (top 55), defBody (top 55), defScope (top 55), [], []⟩
def d_law : He.DefD := ⟨("law", none), "law", "law", defArgs (top 56), defBody (top 56), defScope (top 56), [], []⟩

def hfn : List He.DefD := [d_is_int, d_is_thing, d_is_step, d_is_end, d_shared_by, d_is_trick, d_line_of, d_text_of, d_item_in, d_items_in, d_trick_in, d_read_trick, d__law_sack, d__law_grab, d__law_any, d__law_words, d__law_step, d__law_product, d__law_trick, d__law_tail, d__law_is_whole, d__law_is_step, d__law_is_end, d__law_is_trick, d__law_stuff, d__law_kinds, d__law_call, d__law_text_of, d__law_item, d__law_due, d__law_spoil, d_law]
def hfa : List He.Fa := [.free "ValueError", .free "abs", .free "all", .free "bool", .free "int", .free "isinstance", .free "len", .free "max", .free "min", .free "range", .free "str", .free "tuple", .free "zip", .glo "is_int", .glo "is_thing", .glo "is_step", .glo "is_end", .glo "shared_by", .glo "is_trick", .glo "line_of", .glo "text_of", .glo "item_in", .glo "items_in", .glo "trick_in", .glo "read_trick", .glo "_law_sack", .glo "_law_grab", .glo "_law_any", .glo "_law_words", .glo "_law_step", .glo "_law_product", .glo "_law_trick", .glo "_law_tail", .glo "_law_is_whole", .glo "_law_is_step", .glo "_law_is_end", .glo "_law_is_trick", .glo "_law_stuff", .glo "_law_kinds", .glo "_law_call", .glo "_law_text_of", .glo "_law_item", .glo "_law_due", .glo "_law_spoil", .glo "law", .glo "TooMany", .glo "ThinkError", .glo "THINGS", .int "MOST_STEPS" 8, .int "MOST_SHARED" 36, .str "FIGURES" "0123456789"]
def tf : List (He.Defn × Str) := [(("law", none), "law.<locals>.<lambda>")]
def hex (K : PySem.W.Frag) : Bool := FX.errB K errs clss && (FX.lamB K tf && (He.tupB K "THINGS" (((["number", "turned", "sum", "first", "last", "one"] : List Str)).map He.Dv.str)))
abbrev HR : PySem.W.OpenRow := PySem.W.OpenLaw.row PySem.Challenge.rw_thinkfigures_k17_spoilt_texts
abbrev hk : PySem.W.Hook := He.hookX 2 hfa hfn [] (tf.map (·.1)) hex
def hob (s : PySem.W.SharedT) : He.AlX := He.obsX 2 hfa hfn [] (tf.map (·.1)) hex (HandSHeadRun.getT s)
theorem hob_eq (s : PySem.W.SharedT) : hob s = hk.obs s.abs := He.obsX_eq (HandSHeadRun.getT_eq s)
def loose : List Str := (["ThinkError", "InvalidBase", "InvalidTrick", "InvalidNumber", "InvalidLength", "InvalidWish", "InvalidThing", "InvalidBy", "InvalidIndex", "InvalidStep", "NotWhole", "Unlike", "Broken", "NoTrick", "NoText", "NothingToUndo", "TooMany", "THINGS", "MOST_STEPS", "MOST_SHARED", "FIGURES", "is_int", "is_thing", "is_step", "is_end"] : List Str) ++ (["shared_by", "is_trick", "line_of", "text_of", "item_in", "items_in", "trick_in", "read_trick", "_law_sack", "_law_grab", "_law_any", "_law_words", "_law_step", "_law_product", "_law_trick", "_law_tail", "_law_is_whole", "_law_is_step", "_law_is_end", "_law_is_trick", "_law_stuff", "_law_kinds", "_law_call", "_law_text_of", "_law_item"] : List Str) ++ (["_law_due", "_law_spoil"] : List Str)
theorem hrun (w : World) : HandSHeadRun.RunEq HR (PySem.W.view HR.prog [56]) hk hob 20000 loose w := by
  intro os
  kernel_rfl
end LW
namespace LW
open PySem PySem.Spec PyProof.Rows L2 FX
noncomputable section
def B_is_int : Sv := retS (andE (unE (isiD "int") (vE 0)) (andE (notE (unE (isiD "bool") (vE 0))) (chainE leD leD (vE 1) (vE 0) (vE 2))))
def M_is_int : Ev := runD 3 0 (B_is_int)
def B_is_thing : Sv := retS (andE (unE (isiD "str") (vE 0)) (binE (inD false) (vE 0) (cE (.tup [(.str "number"), (.str "turned"), (.str "sum"), (.str "first"), (.str "last"), (.str "one")]))))
def M_is_thing : Ev := runD 1 0 (B_is_thing)
def B_is_step : Sv := seqS (ifS (orT (notT (valT (unE (isiD "tuple") (vE 0)))) (orT (notT (valT (chainE leD leD (cE (.int 2)) (bltE lenD (consA (vE 0) (nilA))) (cE (.int 3))))) (notT (valT (unE (isiD "str") (binE ixD (vE 0) (cE (.int 0)))))))) (retS (cE (.bl false))) (nxS)) (seqS (ifS (valT (binE eqD (binE ixD (vE 0) (cE (.int 0))) (cE (.str "add")))) (retS (andE (binE eqD (bltE lenD (consA (vE 0) (nilA))) (cE (.int 3))) (andE (callF M_is_int (consA (binE ixD (vE 0) (cE (.int 1))) (consA (unE negD (cE (.int 9))) (consA (cE (.int 9)) (nilA))))) (andE (binE neD (binE ixD (vE 0) (cE (.int 1))) (cE (.int 0))) (callF M_is_thing (consA (binE ixD (vE 0) (cE (.int 2))) (nilA))))))) (nxS)) (retS (andE (binE (inD false) (binE ixD (vE 0) (cE (.int 0))) (tupE (consA (cE (.str "times")) (consA (cE (.str "share")) (nilA))))) (andE (binE eqD (bltE lenD (consA (vE 0) (nilA))) (cE (.int 2))) (callF M_is_int (consA (binE ixD (vE 0) (cE (.int 1))) (consA (cE (.int 2)) (consA (cE (.int 12)) (nilA)))))))))
def M_is_step : Ev := runD 1 0 (B_is_step)
def B_is_end : Sv := seqS (ifS (valT (binE isND (vE 0) (cE .non))) (retS (cE (.bl true))) (nxS)) (seqS (ifS (orT (notT (valT (unE (isiD "tuple") (vE 0)))) (orT (valT (binE eqD (bltE lenD (consA (vE 0) (nilA))) (cE (.int 0)))) (notT (valT (unE (isiD "str") (binE ixD (vE 0) (cE (.int 0)))))))) (retS (cE (.bl false))) (nxS)) (seqS (ifS (valT (binE eqD (binE ixD (vE 0) (cE (.int 0))) (cE (.str "root")))) (retS (binE eqD (bltE lenD (consA (vE 0) (nilA))) (cE (.int 1)))) (nxS)) (retS (andE (binE eqD (binE ixD (vE 0) (cE (.int 0))) (cE (.str "rest"))) (andE (binE eqD (bltE lenD (consA (vE 0) (nilA))) (cE (.int 2))) (callF M_is_int (consA (binE ixD (vE 0) (cE (.int 1))) (consA (cE (.int 2)) (consA (cE (.int 20)) (nilA))))))))))
def M_is_end : Ev := runD 1 0 (B_is_end)
def L_shared_by_1 (ρ : Rho) : SO := (ifS (valT (binE eqD (binE ixD (vE 2) (cE (.int 0))) (cE (.str "share")))) (setF 1 (binE mulD (vE 1) (binE ixD (vE 2) (cE (.int 1))))) (nxS)) ρ
def B_shared_by : Sv := seqS (setF 1 (cE (.int 1))) (seqS (forS (seqI (vE 0)) (gN 2) (L_shared_by_1)) (retS (vE 1)))
def M_shared_by : Ev := runD 1 2 (B_shared_by)
def B_is_trick : Sv := seqS (ifS (orT (notT (valT (unE (isiD "tuple") (vE 0)))) (orT (valT (binE neD (bltE lenD (consA (vE 0) (nilA))) (cE (.int 2)))) (orT (notT (valT (unE (isiD "tuple") (binE ixD (vE 0) (cE (.int 0)))))) (notT (valT (callF M_is_end (consA (binE ixD (vE 0) (cE (.int 1))) (nilA)))))))) (retS (cE (.bl false))) (nxS)) (seqS (ifS (orT (valT (binE gtD (bltE lenD (consA (binE ixD (vE 0) (cE (.int 0))) (nilA))) (cE (.int 8)))) (notT (valT (bltE allD (consA (lcE (seqI (binE ixD (vE 0) (cE (.int 0)))) (gN 1) (okT true) (callF M_is_step (consA (vE 1) (nilA))) [1]) (nilA)))))) (retS (cE (.bl false))) (nxS)) (retS (binE leD (callF M_shared_by (consA (binE ixD (vE 0) (cE (.int 0))) (nilA))) (cE (.int 36)))))
def M_is_trick : Ev := runD 1 1 (B_is_trick)
def B_line_of : Sv := retS (mthE joinD (cE (.str " ")) (lcE (seqI (vE 0)) (gN 1) (okT true) (bltE strD (consA (vE 1) (nilA))) [1]))
def M_line_of : Ev := runD 1 1 (B_line_of)
def B_text_of : Sv := seqS (setF 1 (binE addD (lstE (consA (cE (.str "think")) (nilA))) (lcE (seqI (binE ixD (vE 0) (cE (.int 0)))) (gN 2) (okT true) (callF M_line_of (consA (vE 2) (nilA))) [2]))) (retS (mthE joinD (cE (.str "\n")) (ifE (valT (binE isND (binE ixD (vE 0) (cE (.int 1))) (cE .non))) (vE 1) (binE addD (vE 1) (lstE (consA (callF M_line_of (consA (binE ixD (vE 0) (cE (.int 1))) (nilA))) (nilA)))))))
def M_text_of : Ev := runD 1 2 (B_text_of)
def B_item_in : Sv := seqS (setF 1 (ifE (valT (binE eqD (slE (vE 0) (noO) (intO (cE (.int 1)))) (cE (.str "-")))) (slE (vE 0) (intO (cE (.int 1))) (noO)) (vE 0))) (seqS (ifS (andT (valT (chainE leD leD (cE (.int 1)) (bltE lenD (consA (vE 1) (nilA))) (cE (.int 2)))) (valT (bltE allD (consA (lcE (seqI (vE 1)) (gN 2) (okT true) (binE (inS false) (vE 2) (cE (.str "0123456789"))) [2]) (nilA))))) (retS (ifE (valT (binE eqD (vE 1) (vE 0))) (bltE intD (consA (vE 1) (nilA))) (binE subD (cE (.int 0)) (bltE intD (consA (vE 1) (nilA)))))) (nxS)) (retS (vE 0)))
def M_item_in : Ev := runD 1 2 (B_item_in)
def B_items_in : Sv := retS (bltE tupleD (consA (lcE (seqI (mthE splitD (vE 0) (cE (.str " ")))) (gN 1) (okT true) (callF M_item_in (consA (vE 1) (nilA))) [1]) (nilA)))
def M_items_in : Ev := runD 1 1 (B_items_in)
def B_trick_in : Sv := seqS (setF 1 (lcE (seqI (slE (vE 0) (intO (cE (.int 1))) (noO))) (gN 2) (okT true) (callF M_items_in (consA (vE 2) (nilA))) [2])) (seqS (ifS (andT (valT (binE neD (vE 1) (lstE (nilA)))) (valT (binE (inD false) (binE ixD (binE ixD (vE 1) (unE negD (cE (.int 1)))) (cE (.int 0))) (tupE (consA (cE (.str "rest")) (consA (cE (.str "root")) (nilA))))))) (retS (tupE (consA (bltE tupleD (consA (slE (vE 1) (noO) (intO (unE negD (cE (.int 1))))) (nilA))) (consA (binE ixD (vE 1) (unE negD (cE (.int 1)))) (nilA))))) (nxS)) (retS (tupE (consA (bltE tupleD (consA (vE 1) (nilA))) (consA (cE .non) (nilA))))))
def M_trick_in : Ev := runD 1 2 (B_trick_in)
def B_read_trick : Sv := seqS (ifS (notT (valT (unE (isiD "str") (vE 0)))) (raiseS "NoText") (nxS)) (seqS (setF 1 (callF M_trick_in (consA (mthE splitD (vE 0) (cE (.str "\n"))) (nilA)))) (seqS (ifS (orT (notT (valT (callF M_is_trick (consA (vE 1) (nilA))))) (valT (binE neD (callF M_text_of (consA (vE 1) (nilA))) (vE 0)))) (raiseS "NoText") (nxS)) (retS (vE 1))))
def M_read_trick : Ev := runD 1 1 (B_read_trick)
def I__law_sack_1 (ρ : Rho) : SO := (ifS (valT (binE ltD (vE 1) (bltE lenD (consA (vE 0) (nilA))))) (setF 2 (binE modD (bltE absD (consA (bltE intD (consA (binE ixD (vE 0) (vE 1)) (nilA))) (nilA))) (binE mulD (binE mulD (binE mulD (binE powD (cE (.int 10)) (cE (.int 60))) (binE powD (cE (.int 10)) (cE (.int 60)))) (binE powD (cE (.int 10)) (cE (.int 60)))) (binE powD (cE (.int 10)) (cE (.int 40)))))) (ifS (valT (binE gtD (bltE lenD (consA (vE 0) (nilA))) (cE (.int 0)))) (setF 2 (binE addD (vE 2) (binE modD (bltE absD (consA (bltE intD (consA (binE ixD (vE 0) (cE (.int 0))) (nilA))) (nilA))) (cE (.int 1000081))))) (nxS))) ρ
def B__law_sack : Sv := seqS (setF 2 (binE addD (binE mulD (cE (.int 104729)) (vE 1)) (cE (.int 55)))) (seqS (I__law_sack_1) (retS (lstE (consA (ifE (valT (binE geD (vE 2) (binE powD (cE (.int 10)) (cE (.int 18))))) (vE 2) (cE (.int 0))) (consA (binE addD (binE modD (bltE intD (consA (binE addD (binE addD (binE mulD (binE modD (vE 2) (cE (.int 2147483423))) (cE (.int 6))) (binE mulD (cE (.int 29)) (vE 1))) (cE (.int 2))) (nilA))) (cE (.int 2147483423))) (cE (.int 1))) (nilA))))))
def M__law_sack : Ev := runD 2 1 (B__law_sack)
def L__law_grab_1 (ρ : Rho) : SO := (seqS (setIxS 0 (cE (.int 1)) (binE modD (bltE intD (consA (binE addD (binE mulD (binE ixD (vE 0) (cE (.int 1))) (cE (.int 26951))) (cE (.int 31))) (nilA))) (cE (.int 2147483423)))) (seqS (setF 2 (binE addD (binE mulD (vE 2) (cE (.int 16384))) (binE modD (bltE intD (consA (binE fdivD (binE ixD (vE 0) (cE (.int 1))) (cE (.int 32771))) (nilA))) (cE (.int 16384))))) (setF 3 (binE mulD (vE 3) (cE (.int 16384)))))) ρ
def C__law_grab_1 (ρ : Rho) : Out Bool := (orT (valT (binE ltD (vE 3) (vE 1))) (valT (binE eqD (vE 3) (cE (.int 1))))) ρ
def B__law_grab : Sv := seqS (ifS (valT (binE gtD (binE ixD (vE 0) (cE (.int 0))) (cE (.int 0)))) (seqS (setF 2 (binE modD (bltE intD (consA (binE ixD (vE 0) (cE (.int 0))) (nilA))) (vE 1))) (seqS (setIxS 0 (cE (.int 0)) (binE fdivD (binE ixD (vE 0) (cE (.int 0))) (vE 1))) (retS (vE 2)))) (nxS)) (seqS (tupS (tupE (consA (cE (.int 0)) (consA (cE (.int 1)) (nilA)))) [gN 2, gN 3]) (seqS (whileS C__law_grab_1 L__law_grab_1 fuel) (retS (binE modD (bltE intD (consA (vE 2) (nilA))) (vE 1)))))
def M__law_grab : Ev := runD 2 2 (B__law_grab)
def B__law_any : Sv := retS (binE ixD (vE 1) (callF M__law_grab (consA (vE 0) (consA (bltE lenD (consA (vE 1) (nilA))) (nilA)))))
def M__law_any : Ev := runD 2 0 (B__law_any)
def B__law_words : Sv := retS (lstE (consA (cE (.str "number")) (consA (cE (.str "turned")) (consA (cE (.str "sum")) (consA (cE (.str "first")) (consA (cE (.str "last")) (consA (cE (.str "one")) (nilA))))))))
def M__law_words : Ev := runD 0 0 (B__law_words)
def I__law_step_1 (ρ : Rho) : SO := (ifS (valT (binE ltD (vE 1) (cE (.int 4)))) (seqS (setF 2 (callF M__law_any (consA (vE 0) (consA (lstE (consA (cE (.int 1)) (consA (unE negD (cE (.int 1))) (consA (cE (.int 2)) (consA (unE negD (cE (.int 2))) (consA (cE (.int 3)) (consA (cE (.int 9)) (consA (unE negD (cE (.int 9))) (consA (binE addD (cE (.int 1)) (callF M__law_grab (consA (vE 0) (consA (cE (.int 9)) (nilA))))) (nilA)))))))))) (nilA))))) (seqS (setF 3 (callF M__law_any (consA (vE 0) (consA (binE addD (callF M__law_words nilA) (lstE (consA (cE (.str "number")) (consA (cE (.str "turned")) (consA (cE (.str "sum")) (consA (cE (.str "one")) (nilA))))))) (nilA))))) (retS (tupE (consA (cE (.str "add")) (consA (vE 2) (consA (vE 3) (nilA)))))))) (nxS)) ρ
def B__law_step : Sv := seqS (setF 1 (callF M__law_grab (consA (vE 0) (consA (cE (.int 7)) (nilA))))) (seqS (I__law_step_1) (seqS (ifS (valT (binE eqD (vE 1) (cE (.int 4)))) (retS (tupE (consA (cE (.str "times")) (consA (binE addD (cE (.int 2)) (callF M__law_grab (consA (vE 0) (consA (cE (.int 11)) (nilA))))) (nilA))))) (nxS)) (retS (tupE (consA (cE (.str "share")) (consA (callF M__law_any (consA (vE 0) (consA (lstE (consA (cE (.int 2)) (consA (cE (.int 3)) (consA (cE (.int 9)) (consA (cE (.int 11)) (consA (binE addD (cE (.int 2)) (callF M__law_grab (consA (vE 0) (consA (cE (.int 11)) (nilA))))) (nilA))))))) (nilA)))) (nilA)))))))
def M__law_step : Ev := runD 1 3 (B__law_step)
def L__law_product_1 (ρ : Rho) : SO := (setF 1 (binE mulD (vE 1) (ifE (valT (binE eqD (binE ixD (vE 2) (cE (.int 0))) (cE (.str "share")))) (binE ixD (vE 2) (cE (.int 1))) (cE (.int 1))))) ρ
def B__law_product : Sv := seqS (setF 1 (cE (.int 1))) (seqS (forS (seqI (vE 0)) (gN 2) (L__law_product_1)) (retS (vE 1)))
def M__law_product : Ev := runD 1 2 (B__law_product)
def B__law_tail : Sv := retS (ifE (andT (valT (chainE leD leD (cE (.int 2)) (vE 1) (cE (.int 12)))) (valT (binE eqD (callF M__law_grab (consA (vE 0) (consA (cE (.int 2)) (nilA)))) (cE (.int 0))))) (tupE (consA (tupE (consA (cE (.str "share")) (consA (vE 1) (nilA)))) (nilA))) (tupE (nilA)))
def M__law_tail : Ev := runD 2 0 (B__law_tail)
def I__law_trick_1 (ρ : Rho) : SO := (ifS (valT (binE eqD (vE 4) (cE (.int 2)))) (setF 3 (binE addD (tupE (consA (tupE (consA (cE (.str "add")) (consA (cE (.int 1)) (consA (cE (.str "turned")) (nilA))))) (nilA))) (callF M__law_tail (consA (vE 0) (consA (binE addD (vE 1) (cE (.int 1))) (nilA)))))) (ifS (valT (binE eqD (vE 4) (cE (.int 3)))) (seqS (setF 5 (binE addD (cE (.int 2)) (callF M__law_grab (consA (vE 0) (consA (cE (.int 6)) (nilA)))))) (setF 3 (tupE (consA (tupE (consA (cE (.str "times")) (consA (vE 5) (nilA)))) (consA (tupE (consA (cE (.str "add")) (consA (vE 5) (consA (callF M__law_any (consA (vE 0) (consA (callF M__law_words nilA) (nilA)))) (nilA))))) (consA (tupE (consA (cE (.str "share")) (consA (vE 5) (nilA)))) (nilA))))))) (nxS))) ρ
def I__law_trick_2 (ρ : Rho) : SO := (ifS (valT (binE eqD (vE 4) (cE (.int 0)))) (setF 3 (binE addD (tupE (consA (tupE (consA (cE (.str "add")) (consA (unE negD (cE (.int 1))) (consA (cE (.str "turned")) (nilA))))) (nilA))) (callF M__law_tail (consA (vE 0) (consA (binE subD (vE 1) (cE (.int 1))) (nilA)))))) (ifS (valT (binE eqD (vE 4) (cE (.int 1)))) (setF 3 (binE addD (tupE (consA (tupE (consA (cE (.str "add")) (consA (unE negD (cE (.int 1))) (consA (cE (.str "sum")) (nilA))))) (nilA))) (callF M__law_tail (consA (vE 0) (consA (binE subD (vE 1) (cE (.int 1))) (nilA)))))) (I__law_trick_1))) ρ
def L__law_trick_3 (ρ : Rho) : SO := (seqS (setF 7 (callF M__law_step (consA (vE 0) (nilA)))) (ifS (andT (valT (binE ltD (bltE lenD (consA (vE 3) (nilA))) (vE 2))) (valT (binE leD (callF M__law_product (consA (binE addD (vE 3) (tupE (consA (vE 7) (nilA)))) (nilA))) (cE (.int 36))))) (setF 3 (binE addD (vE 3) (tupE (consA (vE 7) (nilA))))) (nxS))) ρ
def B__law_trick : Sv := seqS (setF 3 (tupE (nilA))) (seqS (setF 4 (callF M__law_grab (consA (vE 0) (consA (cE (.int 6)) (nilA))))) (seqS (I__law_trick_2) (seqS (forS (rng1 (callF M__law_grab (consA (vE 0) (consA (vE 2) (nilA))))) (gN 6) (L__law_trick_3)) (seqS (setF 8 (callF M__law_any (consA (vE 0) (consA (lstE (consA (cE .non) (consA (cE .non) (consA (tupE (consA (cE (.str "root")) (nilA))) (consA (tupE (consA (cE (.str "rest")) (consA (binE addD (cE (.int 2)) (callF M__law_grab (consA (vE 0) (consA (cE (.int 11)) (nilA))))) (nilA)))) (consA (tupE (consA (cE (.str "rest")) (consA (cE (.int 9)) (nilA)))) (nilA))))))) (nilA))))) (retS (tupE (consA (slE (vE 3) (noO) (intO (vE 2))) (consA (vE 8) (nilA)))))))))
def M__law_trick : Ev := runD 3 6 (B__law_trick)
def B__law_is_whole : Sv := retS (andE (unE (isiD "int") (vE 0)) (andE (notE (unE (isiD "bool") (vE 0))) (chainE leD leD (vE 1) (vE 0) (vE 2))))
def M__law_is_whole : Ev := runD 3 0 (B__law_is_whole)
def B__law_is_step : Sv := seqS (ifS (orT (notT (valT (unE (isiD "tuple") (vE 0)))) (orT (valT (binE (inD true) (bltE lenD (consA (vE 0) (nilA))) (tupE (consA (cE (.int 2)) (consA (cE (.int 3)) (nilA)))))) (notT (valT (unE (isiD "str") (binE ixD (vE 0) (cE (.int 0)))))))) (retS (cE (.bl false))) (nxS)) (seqS (ifS (valT (binE eqD (bltE lenD (consA (vE 0) (nilA))) (cE (.int 2)))) (retS (andE (binE (inD false) (binE ixD (vE 0) (cE (.int 0))) (tupE (consA (cE (.str "times")) (consA (cE (.str "share")) (nilA))))) (callF M__law_is_whole (consA (binE ixD (vE 0) (cE (.int 1))) (consA (cE (.int 2)) (consA (cE (.int 12)) (nilA))))))) (nxS)) (seqS (ifS (orT (valT (binE neD (binE ixD (vE 0) (cE (.int 0))) (cE (.str "add")))) (orT (notT (valT (callF M__law_is_whole (consA (binE ixD (vE 0) (cE (.int 1))) (consA (unE negD (cE (.int 9))) (consA (cE (.int 9)) (nilA))))))) (valT (binE eqD (binE ixD (vE 0) (cE (.int 1))) (cE (.int 0)))))) (retS (cE (.bl false))) (nxS)) (retS (andE (unE (isiD "str") (binE ixD (vE 0) (cE (.int 2)))) (binE (inD false) (binE ixD (vE 0) (cE (.int 2))) (callF M__law_words nilA))))))
def M__law_is_step : Ev := runD 1 0 (B__law_is_step)
def B__law_is_end : Sv := seqS (ifS (valT (binE isND (vE 0) (cE .non))) (retS (cE (.bl true))) (nxS)) (seqS (ifS (orT (notT (valT (unE (isiD "tuple") (vE 0)))) (orT (valT (binE (inD true) (bltE lenD (consA (vE 0) (nilA))) (tupE (consA (cE (.int 1)) (consA (cE (.int 2)) (nilA)))))) (notT (valT (unE (isiD "str") (binE ixD (vE 0) (cE (.int 0)))))))) (retS (cE (.bl false))) (nxS)) (seqS (ifS (valT (binE eqD (bltE lenD (consA (vE 0) (nilA))) (cE (.int 1)))) (retS (binE eqD (binE ixD (vE 0) (cE (.int 0))) (cE (.str "root")))) (nxS)) (retS (andE (binE eqD (binE ixD (vE 0) (cE (.int 0))) (cE (.str "rest"))) (callF M__law_is_whole (consA (binE ixD (vE 0) (cE (.int 1))) (consA (cE (.int 2)) (consA (cE (.int 20)) (nilA)))))))))
def M__law_is_end : Ev := runD 1 0 (B__law_is_end)
def B__law_is_trick : Sv := seqS (ifS (orT (notT (valT (unE (isiD "tuple") (vE 0)))) (orT (valT (binE neD (bltE lenD (consA (vE 0) (nilA))) (cE (.int 2)))) (notT (valT (callF M__law_is_end (consA (binE ixD (vE 0) (cE (.int 1))) (nilA))))))) (retS (cE (.bl false))) (nxS)) (seqS (ifS (orT (notT (valT (unE (isiD "tuple") (binE ixD (vE 0) (cE (.int 0)))))) (valT (binE gtD (bltE lenD (consA (binE ixD (vE 0) (cE (.int 0))) (nilA))) (cE (.int 8))))) (retS (cE (.bl false))) (nxS)) (seqS (ifS (valT (binE neD (lcE (seqI (binE ixD (vE 0) (cE (.int 0)))) (gN 1) (notT (valT (callF M__law_is_step (consA (vE 1) (nilA))))) (vE 1) [1]) (lstE (nilA)))) (retS (cE (.bl false))) (nxS)) (retS (binE leD (callF M__law_product (consA (binE ixD (vE 0) (cE (.int 0))) (nilA))) (cE (.int 36))))))
def M__law_is_trick : Ev := runD 1 1 (B__law_is_trick)
def I__law_stuff_1 (ρ : Rho) : SO := (ifS (orT (valT (binE eqD (vE 1) (cE (.int 0)))) (valT (binE ltD (callF M__law_grab (consA (vE 0) (consA (cE (.int 9)) (nilA)))) (cE (.int 6))))) (seqS (setF 2 (lstE (consA (cE (.int 0)) (consA (cE (.int 1)) (consA (cE (.int 2)) (consA (cE (.int 3)) (consA (cE (.int 9)) (consA (cE (.int 16)) (consA (unE negD (cE (.int 1))) (consA (cE (.bl true)) (consA (cE (.bl false)) (consA (cE .non) (consA (cE (.str "")) (consA (cE (.str "sum")) (consA (cE (.str "root")) (consA (cE (.str "add")) (consA (binE powD (cE (.int 10)) (cE (.int 38))) (consA (tupE (nilA)) (consA (lstE (nilA)) (nilA)))))))))))))))))))) (retS (callF M__law_any (consA (vE 0) (consA (binE addD (vE 2) (lstE (consA (tupE (consA (cE (.str "root")) (nilA))) (consA (tupE (consA (cE (.str "times")) (consA (cE (.int 2)) (nilA)))) (consA (tupE (consA (cE (.str "add")) (consA (cE (.int 1)) (consA (cE (.str "one")) (nilA))))) (consA (tupE (consA (cE (.str "rest")) (consA (cE (.int 3)) (nilA)))) (consA (tupE (consA (tupE (nilA)) (consA (cE .non) (nilA)))) (nilA)))))))) (nilA)))))) (nxS)) ρ
def B__law_stuff (self : Ev) : Sv := seqS (I__law_stuff_1) (seqS (setF 3 (lcE (rng1 (callF M__law_grab (consA (vE 0) (consA (cE (.int 4)) (nilA))))) (gN 4) (okT true) (callF self (consA (vE 0) (consA (binE subD (vE 1) (cE (.int 1))) (nilA)))) [4])) (retS (ifE (valT (binE eqD (callF M__law_grab (consA (vE 0) (consA (cE (.int 3)) (nilA)))) (cE (.int 0)))) (vE 3) (bltE tupleD (consA (vE 3) (nilA))))))
def R__law_stuff (f : Nat) : Ev := Nat.rec (runD 2 3 neverS) (fun _ self => runD 2 3 (B__law_stuff self)) f
def M__law_stuff : Ev := R__law_stuff 8
def B__law_kinds (n : Str) (a : Addr) : Sv := seqS (setN 1 (lstE (consA (isXE a n (decide (n = "Broken")) 0) (consA (isXE a n (decide (n = "InvalidBase")) 0) (consA (isXE a n (decide (n = "InvalidBy")) 0) (consA (isXE a n (decide (n = "InvalidIndex")) 0) (nilA))))))) (seqS (setN 1 (binE addD (vE 1) (lstE (consA (isXE a n (decide (n = "InvalidLength")) 0) (consA (isXE a n (decide (n = "InvalidNumber")) 0) (consA (isXE a n (decide (n = "InvalidStep")) 0) (nilA))))))) (seqS (setN 1 (binE addD (vE 1) (lstE (consA (isXE a n (decide (n = "InvalidThing")) 0) (consA (isXE a n (decide (n = "InvalidTrick")) 0) (consA (isXE a n (decide (n = "InvalidWish")) 0) (nilA))))))) (seqS (setN 1 (binE addD (vE 1) (lstE (consA (isXE a n (decide (n = "NoText")) 0) (consA (isXE a n (decide (n = "NoTrick")) 0) (consA (isXE a n (decide (n = "NotWhole")) 0) (nilA))))))) (seqS (setN 1 (binE addD (vE 1) (lstE (consA (isXE a n (decide (n = "NothingToUndo")) 0) (consA (isXE a n (decide (n = "TooMany")) 0) (consA (isXE a n (decide (n = "Unlike")) 0) (nilA))))))) (seqS (appSt 1 (isXE a n true 0)) (seqS (setF 2 (lstE (consA (cE (.str "Broken")) (consA (cE (.str "InvalidBase")) (consA (cE (.str "InvalidBy")) (consA (cE (.str "InvalidIndex")) (consA (cE (.str "InvalidLength")) (consA (cE (.str "InvalidNumber")) (consA (cE (.str "InvalidStep")) (nilA)))))))))) (seqS (setF 2 (binE addD (vE 2) (lstE (consA (cE (.str "InvalidThing")) (consA (cE (.str "InvalidTrick")) (consA (cE (.str "InvalidWish")) (consA (cE (.str "NoText")) (consA (cE (.str "NoTrick")) (consA (cE (.str "NotWhole")) (nilA)))))))))) (seqS (setF 2 (binE addD (vE 2) (lstE (consA (cE (.str "NothingToUndo")) (consA (cE (.str "TooMany")) (consA (cE (.str "Unlike")) (consA (cE (.str "+")) (nilA)))))))) (retS (mthE joinD (cE (.str " ")) (lcE (zipLI (consA (vE 2) (consA (vE 1) (nilA)))) (gT [gN 3, gN 4]) (valT (vE 4)) (vE 3) [3, 4])))))))))))
def K__law_kinds (n : Str) (a : Addr) : Sv := if errs.contains n then B__law_kinds n a else badS
def M__law_kinds (n : Str) (a : Addr) : Ev := runD 1 4 (K__law_kinds n a)
def L__law_text_of_1 (ρ : Rho) : SO := (setF 1 (binE addD (binE addD (vE 1) (cE (.str " "))) (bltE strD (consA (vE 3) (nilA))))) ρ
def L__law_text_of_2 (ρ : Rho) : SO := (seqS (setF 1 (binE addD (binE addD (vE 1) (cE (.str "\n"))) (bltE strD (consA (binE ixD (vE 2) (cE (.int 0))) (nilA))))) (forS (seqI (slE (vE 2) (intO (cE (.int 1))) (noO))) (gN 3) (L__law_text_of_1))) ρ
def B__law_text_of : Sv := seqS (setF 1 (cE (.str "think"))) (seqS (forS (seqI (binE addD (binE ixD (vE 0) (cE (.int 0))) (ifE (valT (binE notND (binE ixD (vE 0) (cE (.int 1))) (cE .non))) (tupE (consA (binE ixD (vE 0) (cE (.int 1))) (nilA))) (tupE (nilA))))) (gN 2) (L__law_text_of_2)) (retS (vE 1)))
def M__law_text_of : Ev := runD 1 3 (B__law_text_of)
def B__law_item : Sv := seqS (setF 1 (ifE (valT (binE eqD (slE (vE 0) (noO) (intO (cE (.int 1)))) (cE (.str "-")))) (slE (vE 0) (intO (cE (.int 1))) (noO)) (vE 0))) (seqS (setF 2 (andE (chainE ltD ltD (cE (.int 0)) (bltE lenD (consA (vE 1) (nilA))) (cE (.int 3))) (binE eqD (lcE (seqI (vE 1)) (gN 3) (valT (binE (inS true) (vE 3) (cE (.str "0123456789")))) (vE 3) [3]) (lstE (nilA))))) (seqS (ifS (notT (valT (vE 2))) (retS (vE 0)) (nxS)) (retS (binE mulD (bltE intD (consA (vE 1) (nilA))) (ifE (valT (binE neD (vE 1) (vE 0))) (unE negD (cE (.int 1))) (cE (.int 1)))))))
def M__law_item : Ev := runD 1 3 (B__law_item)
def L__law_due_1 (ρ : Rho) : SO := (appSt 1 (bltE tupleD (consA (lcE (seqI (mthE splitD (vE 3) (cE (.str " ")))) (gN 5) (okT true) (callF M__law_item (consA (vE 5) (nilA))) [5]) (nilA)))) ρ
def B__law_due : Sv := seqS (ifS (notT (valT (unE (isiD "str") (vE 0)))) (retS (cE .non)) (nxS)) (seqS (parS [1, 2] (consP (lstE (nilA)) (consP (cE .non) (nilA)))) (seqS (forS (seqI (slE (mthE splitD (vE 0) (cE (.str "\n"))) (intO (cE (.int 1))) (noO))) (gN 3) (L__law_due_1)) (seqS (ifS (andT (valT (binE neD (vE 1) (lstE (nilA)))) (valT (callF M__law_is_end (consA (binE ixD (vE 1) (unE negD (cE (.int 1)))) (nilA))))) (setF 2 (popE 1)) (nxS)) (seqS (setF 4 (tupE (consA (bltE tupleD (consA (vE 1) (nilA))) (consA (vE 2) (nilA))))) (retS (ifE (andT (valT (callF M__law_is_trick (consA (vE 4) (nilA)))) (valT (binE eqD (callF M__law_text_of (consA (vE 4) (nilA))) (vE 0)))) (vE 4) (cE .non)))))))
def M__law_due : Ev := runD 1 5 (B__law_due)
def I__law_spoil_1 (ρ : Rho) : SO := (ifS (valT (binE eqD (vE 3) (cE (.int 0)))) (seqS (setF 4 (lstE (consA (cE (.str "1")) (consA (cE (.str " ")) (consA (cE (.str "\n")) (consA (cE (.str "add")) (consA (cE (.str " one")) (consA (cE (.str "\ntimes 2")) (consA (cE (.str "0")) (consA (cE (.str "9")) (consA (cE (.str "Z")) (consA (cE (.str "-")) (consA (cE (.str " 2")) (consA (cE (.str "root")) (consA (cE (.str "\nroot")) (nilA)))))))))))))))) (retS (binE addD (binE addD (slE (vE 1) (noO) (intO (vE 2))) (callF M__law_any (consA (vE 0) (consA (vE 4) (nilA))))) (slE (vE 1) (intO (vE 2)) (noO))))) (nxS)) ρ
def I__law_spoil_2 (ρ : Rho) : SO := (ifS (valT (binE ltD (vE 3) (cE (.int 6)))) (seqS (setF 8 (mthE splitD (vE 1) (cE (.str " ")))) (seqS (setF 9 (callF M__law_grab (consA (vE 0) (consA (bltE lenD (consA (vE 8) (nilA))) (nilA))))) (seqS (setF 10 (slE (vE 8) (intO (binE addD (vE 9) (callF M__law_grab (consA (vE 0) (consA (cE (.int 2)) (nilA)))))) (noO))) (seqS (setF 11 (callF M__law_any (consA (vE 0) (consA (binE addD (vE 8) (lstE (consA (cE (.str "share")) (consA (cE (.str "sum")) (consA (cE (.str "3")) (consA (cE (.str "01")) (consA (cE (.str "-1")) (consA (cE (.str "12")) (consA (cE (.str "13")) (consA (cE (.str "True")) (nilA))))))))))) (nilA))))) (retS (mthE joinD (cE (.str " ")) (binE addD (binE addD (slE (vE 8) (noO) (intO (vE 9))) (lstE (consA (vE 11) (nilA)))) (vE 10)))))))) (nxS)) ρ
def B__law_spoil : Sv := seqS (parS [2, 3] (consP (callF M__law_grab (consA (vE 0) (consA (binE addD (bltE lenD (consA (vE 1) (nilA))) (cE (.int 1))) (nilA)))) (consP (callF M__law_grab (consA (vE 0) (consA (cE (.int 8)) (nilA)))) (nilA)))) (seqS (I__law_spoil_1) (seqS (ifS (valT (binE eqD (vE 3) (cE (.int 1)))) (retS (binE addD (slE (vE 1) (noO) (intO (vE 2))) (slE (vE 1) (intO (binE addD (binE addD (vE 2) (cE (.int 1))) (callF M__law_grab (consA (vE 0) (consA (cE (.int 2)) (nilA)))))) (noO)))) (nxS)) (seqS (setF 5 (mthE splitD (vE 1) (cE (.str "\n")))) (seqS (setF 6 (callF M__law_grab (consA (vE 0) (consA (bltE lenD (consA (vE 5) (nilA))) (nilA))))) (seqS (ifS (valT (binE eqD (vE 3) (cE (.int 2)))) (seqS (setF 7 (lstE (consA (binE addD (slE (vE 5) (noO) (intO (vE 6))) (slE (vE 5) (intO (binE addD (vE 6) (cE (.int 1)))) (noO))) (consA (binE addD (vE 5) (slE (vE 5) (intO (vE 6)) (intO (binE addD (vE 6) (cE (.int 1)))))) (consA (unE rvD (vE 5)) (nilA)))))) (retS (mthE joinD (cE (.str "\n")) (callF M__law_any (consA (vE 0) (consA (vE 7) (nilA))))))) (nxS)) (seqS (I__law_spoil_2) (retS (callF M__law_any (consA (vE 0) (consA (lstE (consA (binE addD (vE 1) (cE (.str "\n"))) (consA (binE addD (cE (.str "\n")) (vE 1)) (consA (binE addD (vE 1) (cE (.str " "))) (consA (binE addD (cE (.str " ")) (vE 1)) (consA (cE (.str "")) (consA (binE addD (vE 1) (cE (.str " 2"))) (nilA)))))))) (nilA)))))))))))
def M__law_spoil : Ev := runD 2 10 (B__law_spoil)
def L_law_1 (ρ : Rho) : SO := (seqS (setF 6 (callF M__law_due (consA (vE 8) (nilA)))) (seqS (setF 7 (ifE (valT (binE notND (vE 6) (cE .non))) (tupE (consA (cE (.str "told")) (consA (vE 6) (nilA)))) (tupE (consA (cE (.str "NoText +")) (nilA))))) (ifS (valT (binE neD (lawCallE errs (callF M_read_trick (consA (vE 8) (nilA)))) (vE 7))) (retS (cE (.bl false))) (nxS)))) ρ
def L_law_2 (ρ : Rho) : SO := (seqS (setN 2 (callF M__law_sack (consA (vE 0) (consA (vE 1) (nilA))))) (seqS (setF 3 (callF M__law_text_of (consA (callF M__law_trick (consA (vE 2) (consA (cE (.int 10)) (consA (cE (.int 8)) (nilA))))) (nilA)))) (seqS (setF 4 (callF M__law_spoil (consA (vE 2) (consA (vE 3) (nilA))))) (seqS (setN 5 (lstE (consA (vE 3) (consA (vE 4) (consA (callF M__law_spoil (consA (vE 2) (consA (vE 4) (nilA)))) (consA (callF M__law_spoil (consA (vE 2) (consA (vE 3) (nilA)))) (consA (callF M__law_spoil (consA (vE 2) (consA (vE 3) (nilA)))) (consA (unE upperD (vE 3)) (nilA))))))))) (seqS (setN 5 (binE addD (vE 5) (lstE (consA (cE (.str "")) (consA (cE (.str "think")) (consA (cE (.str "think\n")) (consA (cE (.str "think\nadd 0 one")) (consA (cE (.str "think\nadd -0 one")) (consA (cE (.str "think\nadd +1 one")) (nilA)))))))))) (seqS (setN 5 (binE addD (vE 5) (lstE (consA (cE (.str "think\nroot\nroot")) (consA (cE (.str "think\nroot\ntimes 2")) (consA (cE (.str "think\nrest 21")) (nilA))))))) (seqS (appSt 5 (cE (.str "think\nshare 12\nshare 4"))) (seqS (appSt 5 (callF M__law_stuff (consA (vE 2) (consA (cE (.int 2)) (nilA))))) (forS (seqI (vE 5)) (gN 8) (L_law_1)))))))))) ρ
def B_law : Sv := seqS (forS (rng1 (bltE maxD2 (consA (cE (.int 1)) (consA (bltE minD2 (consA (cE (.int 15)) (consA (bltE lenD (consA (vE 0) (nilA))) (nilA)))) (nilA))))) (gN 1) (L_law_2)) (retS (binE eqD (callF M_read_trick (consA (cE (.str "think\nadd -1 turned\nroot")) (nilA))) (tupE (consA (tupE (consA (tupE (consA (cE (.str "add")) (consA (unE negD (cE (.int 1))) (consA (cE (.str "turned")) (nilA))))) (nilA))) (consA (tupE (consA (cE (.str "root")) (nilA))) (nilA))))))
def M_law : Ev := runD 1 8 (B_law)
end
end LW
namespace LW
open PySem FX L2
theorem lt_two {n k : Nat} (h : n.log2 < k) : n < 2 ^ k := by
  by_cases h0 : n = 0
  · subst h0; exact Nat.two_pow_pos k
  · exact (Nat.log2_lt h0).mp h
/-- a sack -/
def Sk (sk : List D) : Prop := ∃ a b : Int, sk = [.int a, .int b] ∧ 0 ≤ a ∧ 0 ≤ b ∧ b ≤ 2147483423
theorem grab_body {a b m x y : Int} (hb : 0 ≤ b) (hb2 : b ≤ 2147483423) (hx : x.natAbs < 2 ^ 9000) (hy : y.natAbs < 2 ^ 9000) : L__law_grab_1 [.own true (.lst [.int a, .int b]), .val (.int m), .val (.int x), .val (.int y)] =
    .nx [.own true (.lst [.int a, .int ((b * 26951 + 31) % 2147483423)]), .val (.int m), .val (.int (x * 16384 + ((b * 26951 + 31) % 2147483423 / 32771) % 16384)), .val (.int (y * 16384))] := by
  have h1 : b.natAbs.log2 < 32 := log2_lt (by decide) (by omega)
  have h2 := log2_lt (by decide) hx
  have h3 := log2_lt (by decide) hy
  have e1 : Nat.log2 26951 = 14 := by decide
  have e2 : Nat.log2 16384 = 14 := by decide
  have e3 : Nat.log2 32771 < 9000 := by decide
  have c1 : b.natAbs.log2 + Nat.log2 26951 < 1000000 := by omega
  have c2 : x.natAbs.log2 + Nat.log2 16384 < 1000000 := by omega
  have c3 : y.natAbs.log2 + Nat.log2 16384 < 1000000 := by omega
  simp [L__law_grab_1, x_mulI, c1, c2, c3, e3]
theorem grab_loop {a m : Int} (hm : 0 < m) (hm2 : m.natAbs < 2 ^ 240) : ∀ (n k : Nat) (b x y : Int), 0 ≤ b → b ≤ 2147483423 → 0 ≤ x → x < y → 1 < y → y ≤ m * 16384 → m ≤ y * 2 ^ n → n ≤ k →
    ∃ b' x' y', 0 ≤ b' ∧ b' ≤ 2147483423 ∧ 0 ≤ x' ∧ whileS C__law_grab_1 L__law_grab_1 (k + 1) [.own true (.lst [.int a, .int b]), .val (.int m), .val (.int x), .val (.int y)] = .nx [.own true (.lst [.int a, .int b']), .val (.int m), .val (.int x'), .val (.int y')] := by
  have stop : ∀ (k : Nat) (b x y : Int), m ≤ y → 1 < y → whileS C__law_grab_1 L__law_grab_1 (k + 1) [.own true (.lst [.int a, .int b]), .val (.int m), .val (.int x), .val (.int y)] = .nx [.own true (.lst [.int a, .int b]), .val (.int m), .val (.int x), .val (.int y)] := fun k b x y h1 h2 => by
    have h3 : ¬ y < m := by omega
    have h4 : ¬ y = 1 := by omega
    simp [whileS, bindTS, C__law_grab_1, eqD_int, h3, h4]
  intro n
  induction n with
  | zero =>
    intro k b x y hb hb2 hx hxy hy hym hmy hk
    exact ⟨b, x, y, hb, hb2, hx, stop k b x y (by simpa using hmy) hy⟩
  | succ n ih =>
    intro k b x y hb hb2 hx hxy hy hym hmy hk
    by_cases h : m ≤ y
    · exact ⟨b, x, y, hb, hb2, hx, stop k b x y h hy⟩
    · obtain ⟨k, rfl⟩ : ∃ j, k = j + 1 := ⟨k - 1, by omega⟩
      have h3 : y < m := by omega
      have big : ∀ z : Int, 0 ≤ z → z ≤ m * 16384 → z.natAbs < 2 ^ 9000 := fun z z0 z1 =>
        Nat.lt_of_lt_of_le (show z.natAbs < 2 ^ 255 by omega) (Nat.pow_le_pow_right (by decide) (by decide))
      have body := grab_body (a := a) (m := m) hb hb2 (big x hx (by omega)) (big y (by omega) (by omega))
      obtain ⟨b', x', y', q1, q2, q3, q4⟩ := ih k ((b * 26951 + 31) % 2147483423) (x * 16384 + ((b * 26951 + 31) % 2147483423 / 32771) % 16384) (y * 16384) (by omega) (by omega) (by omega) (by omega) (by omega) (by omega)
        (by rw [Int.pow_succ] at hmy; have p : (0 : Int) < 2 ^ n := Int.pow_pos (by decide); have : y * (2 ^ n * 2) ≤ y * 16384 * 2 ^ n := by rw [show y * (2 ^ n * 2) = y * 2 ^ n * 2 by rw [Int.mul_assoc], show y * 16384 * 2 ^ n = y * 2 ^ n * 16384 by rw [Int.mul_assoc, Int.mul_comm 16384, ← Int.mul_assoc]]; have := Int.mul_pos (show 0 < y by omega) p; omega
            omega) (by omega)
      refine ⟨b', x', y', q1, q2, q3, ?_⟩
      rw [← q4]
      have : ∀ j ρ, whileS C__law_grab_1 L__law_grab_1 (j + 1) ρ = bindTS C__law_grab_1 (fun b => if b then (fun ρ => match L__law_grab_1 ρ with | .nx ρ' => whileS C__law_grab_1 L__law_grab_1 j ρ' | .ct ρ' => whileS C__law_grab_1 L__law_grab_1 j ρ' | .bk ρ' => .nx ρ' | o => o) else nxS) ρ := fun _ _ => rfl
      rw [this]
      simp only [bindTS]
      have t : C__law_grab_1 [.own true (.lst [.int a, .int b]), .val (.int m), .val (.int x), .val (.int y)] = .ok true [.own true (.lst [.int a, .int b]), .val (.int m), .val (.int x), .val (.int y)] := by simp [C__law_grab_1, h3]
      rw [t]
      simp only [if_true, body]
theorem grab_ok {sk : List D} {m : Int} (hs : Sk sk) (hm : 0 < m) (hm2 : m.natAbs < 2 ^ 240) : ∃ (r : Nat) (sk' : List D), Sk sk' ∧ (r : Int) < m ∧ ∀ p, M__law_grab [.own p (.lst sk), .val (.int m)] = .ok (.val (.int r)) [.own p (.lst sk'), .val (.int m)] := by
  obtain ⟨a, b, rfl, ha, hb, hb2⟩ := hs
  by_cases h : 0 < a
  · have hl : m.natAbs.log2 < 9000 := Nat.lt_of_lt_of_le (log2_lt (k := 240) (by decide) hm2) (by decide)
    refine ⟨(a % m).toNat, [.int (a / m), .int b], ⟨_, _, rfl, Int.ediv_nonneg ha (by omega), hb, hb2⟩, ?_, fun p => ?_⟩
    · rw [Int.toNat_of_nonneg (Int.emod_nonneg _ (by omega))]; exact Int.emod_lt_of_pos _ hm
    · rw [Int.toNat_of_nonneg (Int.emod_nonneg _ (by omega))]
      simp [M__law_grab, B__law_grab, h, hm, hl]
  · have ha0 : a = 0 := by omega
    subst ha0
    have lm : m ≤ 1 * 16384 * 2 ^ 240 := by omega
    have body := grab_body (a := 0) (m := m) (x := 0) (y := 1) hb hb2 (Nat.two_pow_pos 9000) (Nat.one_lt_two_pow (by decide))
    obtain ⟨b', x', y', q1, q2, q3, q4⟩ := grab_loop (a := 0) hm hm2 240 999998 ((b * 26951 + 31) % 2147483423) (0 * 16384 + ((b * 26951 + 31) % 2147483423 / 32771) % 16384) (1 * 16384) (by omega) (by omega) (by omega) (by omega) (by omega) (by omega) lm (by decide)
    refine ⟨(x' % m).toNat, [.int 0, .int b'], ⟨_, _, rfl, by omega, q1, q2⟩, ?_, fun p => ?_⟩
    · rw [Int.toNat_of_nonneg (Int.emod_nonneg _ (by omega))]; exact Int.emod_lt_of_pos _ hm
    · rw [Int.toNat_of_nonneg (Int.emod_nonneg _ (by omega))]
      have lp : whileS C__law_grab_1 L__law_grab_1 fuel [.own true (.lst [.int 0, .int b]), .val (.int m), .val (.int 0), .val (.int 1)] = .nx [.own true (.lst [.int 0, .int b']), .val (.int m), .val (.int x'), .val (.int y')] := by
        rw [← q4, show fuel = 999998 + 1 + 1 from rfl]
        have : ∀ j ρ, whileS C__law_grab_1 L__law_grab_1 (j + 1) ρ = bindTS C__law_grab_1 (fun b => if b then (fun ρ => match L__law_grab_1 ρ with | .nx ρ' => whileS C__law_grab_1 L__law_grab_1 j ρ' | .ct ρ' => whileS C__law_grab_1 L__law_grab_1 j ρ' | .bk ρ' => .nx ρ' | o => o) else nxS) ρ := fun _ _ => rfl
        rw [this]
        simp only [bindTS]
        have t : C__law_grab_1 [.own true (.lst [.int 0, .int b]), .val (.int m), .val (.int 0), .val (.int 1)] = .ok true [.own true (.lst [.int 0, .int b]), .val (.int m), .val (.int 0), .val (.int 1)] := by by_cases h1 : 1 < m <;> simp [C__law_grab_1, h1, eqD_int]
        rw [t]
        simp only [if_true, body]
      simp [M__law_grab, B__law_grab, lp, hm]
/-! tricks as Lean data -/
inductive Thing where
  | number | turned | sum | first | last | one
def Thing.name : Thing → Str
  | .number => "number" | .turned => "turned" | .sum => "sum" | .first => "first" | .last => "last" | .one => "one"
def things : List Thing := [.number, .turned, .sum, .first, .last, .one]
inductive Stp where
  | add (t : Int) (w : Thing) | times (k : Int) | share (k : Int)
def Stp.d : Stp → D
  | .add t w => .tup [.str "add", .int t, .str w.name]
  | .times k => .tup [.str "times", .int k]
  | .share k => .tup [.str "share", .int k]
def Stp.ok : Stp → Prop
  | .add t _ => -9 ≤ t ∧ t ≤ 9 ∧ t ≠ 0
  | .times k => 2 ≤ k ∧ k ≤ 12
  | .share k => 2 ≤ k ∧ k ≤ 12
inductive En where
  | no | root | rest (k : Int)
def En.d : En → D
  | .no => .non
  | .root => .tup [.str "root"]
  | .rest k => .tup [.str "rest", .int k]
def En.ok : En → Prop
  | .rest k => 2 ≤ k ∧ k ≤ 20
  | _ => True
def shp : List Stp → Int
  | [] => 1
  | .share k :: l => k * shp l
  | _ :: l => shp l
abbrev sts (ss : List Stp) : D := .tup (ss.map Stp.d)
abbrev trk (ss : List Stp) (e : En) : D := .tup [sts ss, e.d]
structure OkT (ss : List Stp) (e : En) : Prop where
  st : ∀ s ∈ ss, s.ok
  len : ss.length ≤ 8
  shp : shp ss ≤ 36
  en : e.ok
theorem shp_app : ∀ a b : List Stp, shp (a ++ b) = shp a * shp b
  | [], b => by simp [shp]
  | .share k :: a, b => by simp [shp, shp_app a b, Int.mul_assoc]
  | .add t w :: a, b => by simp [shp, shp_app a b]
  | .times k :: a, b => by simp [shp, shp_app a b]
theorem shp_pos : ∀ {a : List Stp}, (∀ s ∈ a, s.ok) → 1 ≤ shp a
  | [], _ => by simp [shp]
  | .share k :: a, h => by
    have h1 := shp_pos (a := a) fun s hs => h s (List.mem_cons_of_mem _ hs)
    have h2 : 2 ≤ k ∧ k ≤ 12 := h _ (List.mem_cons_self ..)
    simp only [shp]
    have := Int.mul_le_mul h2.1 h1 (by omega) (by omega)
    omega
  | .add t w :: a, h => shp_pos (a := a) fun s hs => h s (List.mem_cons_of_mem _ hs)
  | .times k :: a, h => shp_pos (a := a) fun s hs => h s (List.mem_cons_of_mem _ hs)
/-! the drawing -/
theorem any_ok {sk : List D} {l : List D} (hs : Sk sk) (hl : l ≠ []) (hz : l.length ≤ 1000) : ∃ d ∈ l, ∃ sk', Sk sk' ∧ ∀ p, M__law_any [.own p (.lst sk), .val (.lst l)] = .ok (.val d) [.own p (.lst sk'), .val (.lst l)] := by
  have h0 : 0 < l.length := List.length_pos_iff.mpr hl
  obtain ⟨r, sk', h1, h2, e⟩ := grab_ok hs (m := l.length) (by omega) (by omega)
  have h3 : r < l.length := by omega
  refine ⟨l[r], List.getElem_mem h3, sk', h1, fun p => ?_⟩
  have e1 : atI l (r : Int) = some l[r] := by rw [x_atI]; simp [h3]
  simp [M__law_any, B__law_any, e, e1]
theorem words_ok : M__law_words [] = .ok (.new (.lst (things.map fun w => .str w.name))) [] := by
  simp [M__law_words, B__law_words, things, Thing.name]
theorem step_ok {sk : List D} (hs : Sk sk) : ∃ s sk', Stp.ok s ∧ Sk sk' ∧ ∀ p, M__law_step [.own p (.lst sk)] = .ok (.val s.d) [.own p (.lst sk')] := by
  obtain ⟨r, s1, h1, h2, e1⟩ := grab_ok hs (m := 7) (by omega) (by omega)
  by_cases c4 : (r : Int) < 4
  · obtain ⟨t, s2, h3, h4, e2⟩ := grab_ok h1 (m := 9) (by omega) (by omega)
    obtain ⟨d, hd, s3, h5, e3⟩ := any_ok h3 (l := [.int 1, .int (-1), .int 2, .int (-2), .int 3, .int 9, .int (-9), .int (1 + (t : Int))]) (by simp) (by simp)
    obtain ⟨v, hv, s4, h6, e4⟩ := any_ok h5 (l := [.str "number", .str "turned", .str "sum", .str "first", .str "last", .str "one", .str "number", .str "turned", .str "sum", .str "one"]) (by simp) (by simp)
    obtain ⟨i, ei, hi⟩ : ∃ i : Int, d = .int i ∧ -9 ≤ i ∧ i ≤ 9 ∧ i ≠ 0 := by
      simp only [List.mem_cons, List.not_mem_nil, or_false] at hd
      rcases hd with h | h | h | h | h | h | h | h <;> exact ⟨_, h, by omega⟩
    obtain ⟨w, ew⟩ : ∃ w : Thing, v = .str w.name := by
      simp only [List.mem_cons, List.not_mem_nil, or_false] at hv
      rcases hv with h | h | h | h | h | h | h | h | h | h
      · exact ⟨.number, h⟩
      · exact ⟨.turned, h⟩
      · exact ⟨.sum, h⟩
      · exact ⟨.first, h⟩
      · exact ⟨.last, h⟩
      · exact ⟨.one, h⟩
      · exact ⟨.number, h⟩
      · exact ⟨.turned, h⟩
      · exact ⟨.sum, h⟩
      · exact ⟨.one, h⟩
    subst ei ew
    refine ⟨.add i w, s4, hi, h6, fun p => ?_⟩
    simp [M__law_step, B__law_step, I__law_step_1, e1, e2, e3, e4, c4, words_ok, things, Thing.name, Stp.d]
  · by_cases c : (r : Int) = 4
    · obtain ⟨t, s2, h3, h4, e2⟩ := grab_ok h1 (m := 11) (by omega) (by omega)
      refine ⟨.times (2 + t), s2, ⟨by omega, by omega⟩, h3, fun p => ?_⟩
      rw [c] at e1
      simp [M__law_step, B__law_step, I__law_step_1, e1, e2, eqD_int, Stp.d]
    · obtain ⟨t, s2, h3, h4, e2⟩ := grab_ok h1 (m := 11) (by omega) (by omega)
      obtain ⟨d, hd, s3, h5, e3⟩ := any_ok h3 (l := [.int 2, .int 3, .int 9, .int 11, .int (2 + (t : Int))]) (by simp) (by simp)
      obtain ⟨i, ei, hi⟩ : ∃ i : Int, d = .int i ∧ 2 ≤ i ∧ i ≤ 12 := by
        simp only [List.mem_cons, List.not_mem_nil, or_false] at hd
        rcases hd with h | h | h | h | h <;> exact ⟨_, h, by omega⟩
      subst ei
      refine ⟨.share i, s3, hi, h5, fun p => ?_⟩
      simp [M__law_step, B__law_step, I__law_step_1, e1, e2, e3, c4, c, eqD_int, Stp.d]
theorem ne1 : ¬ (("add" : Str) = "share") := by decide
theorem ne2 : ¬ (("times" : Str) = "share") := by decide
theorem ne3 : ¬ (("share" : Str) = "add") := by decide
theorem ne4 : ¬ (("times" : Str) = "add") := by decide
theorem prod_loop {x : D} : ∀ (ss : List Stp) (f : Int) (c : Cell), (∀ s ∈ ss, s.ok) → 0 ≤ f → f * 12 ^ ss.length ≤ 2 ^ 240 → (c = .un ∨ ∃ d, c = .val d) →
    ∃ c', forL (gN 2) L__law_product_1 (ss.map Stp.d) [.val x, .val (.int f), c] = .nx [.val x, .val (.int (f * shp ss)), c']
  | [], f, c, _, _, _, _ => ⟨c, by simp [shp]⟩
  | s :: ss, f, c, h, hf, hb, hc => by
    have hs := h s (List.mem_cons_self ..)
    have hr := fun t ht => h t (List.mem_cons_of_mem s ht)
    have p12 : (0 : Int) < 12 ^ ss.length := Int.pow_pos (by decide)
    have hb' : f * 12 * 12 ^ ss.length ≤ 2 ^ 240 := by rw [List.length_cons, Int.pow_succ, Int.mul_comm (12 ^ ss.length), ← Int.mul_assoc] at hb; exact hb
    have fb : f ≤ 2 ^ 240 := by
      have h1 : f * 12 * 1 ≤ f * 12 * 12 ^ ss.length := Int.mul_le_mul_of_nonneg_left (by omega) (by omega)
      omega
    have c2 : f.natAbs.log2 < 241 := log2_lt (by decide) (by omega)
    have step : ∀ k : Int, 1 ≤ k → k ≤ 12 → f * k * 12 ^ ss.length ≤ 2 ^ 240 := fun k k1 k2 => Int.le_trans (Int.mul_le_mul_of_nonneg_right (Int.mul_le_mul_of_nonneg_left k2 hf) (by omega)) hb'
    have lk : ∀ k : Int, 1 ≤ k → k ≤ 12 → f.natAbs.log2 + k.natAbs.log2 < 1000000 := fun k k1 k2 => by
      have : k.natAbs.log2 < 10 := log2_lt (by decide) (by omega)
      omega
    rw [List.map_cons, x_forL1]
    cases s with
    | add t w =>
      obtain ⟨c', e⟩ := prod_loop (x := x) ss (f * 1) (.val (Stp.add t w).d) hr (by omega) (step 1 (by omega) (by omega)) (.inr ⟨_, rfl⟩)
      refine ⟨c', ?_⟩
      have l1 : f.natAbs.log2 + Nat.log2 1 < 1000000 := lk 1 (by omega) (by omega)
      rcases hc with rfl | ⟨d, rfl⟩ <;> simp [L__law_product_1, Stp.d, eqD_str, ne1, x_mulI, l1, shp] <;> simpa [Stp.d] using e
    | times k =>
      obtain ⟨c', e⟩ := prod_loop (x := x) ss (f * 1) (.val (Stp.times k).d) hr (by omega) (step 1 (by omega) (by omega)) (.inr ⟨_, rfl⟩)
      refine ⟨c', ?_⟩
      have l1 : f.natAbs.log2 + Nat.log2 1 < 1000000 := lk 1 (by omega) (by omega)
      rcases hc with rfl | ⟨d, rfl⟩ <;> simp [L__law_product_1, Stp.d, eqD_str, ne2, x_mulI, l1, shp] <;> simpa [Stp.d] using e
    | share k =>
      have hk : 2 ≤ k ∧ k ≤ 12 := hs
      obtain ⟨c', e⟩ := prod_loop (x := x) ss (f * k) (.val (Stp.share k).d) hr (Int.mul_nonneg hf (by omega)) (step k (by omega) hk.2) (.inr ⟨_, rfl⟩)
      refine ⟨c', ?_⟩
      have l1 := lk k (by omega) hk.2
      rcases hc with rfl | ⟨d, rfl⟩ <;> simp [L__law_product_1, Stp.d, eqD_str, x_mulI, l1, shp] <;> simpa [Stp.d, Int.mul_assoc] using e
theorem pow12 {n : Nat} (h : n ≤ 60) : (1 : Int) * 12 ^ n ≤ 2 ^ 240 := by
  have h1 : 12 ^ n ≤ 12 ^ 60 := Nat.pow_le_pow_right (by decide) h
  have e : ((12 ^ n : Nat) : Int) = 12 ^ n := by simp
  omega
theorem product_ok {ss : List Stp} (h : ∀ s ∈ ss, s.ok) (hl : ss.length ≤ 60) : M__law_product [.val (sts ss)] = .ok (.val (.int (shp ss))) [.val (sts ss)] := by
  obtain ⟨c', e⟩ := prod_loop (x := sts ss) ss 1 .un h (by decide) (pow12 hl) (.inl rfl)
  simp only [Int.one_mul] at e
  simp [M__law_product, B__law_product, sts] at e ⊢
  simp [e]
theorem tail_ok {sk : List D} {by_ : Int} (hs : Sk sk) : ∃ ss sk', (∀ s ∈ ss, Stp.ok s) ∧ ss.length ≤ 1 ∧ shp ss ≤ 12 ∧ Sk sk' ∧ ∀ p, M__law_tail [.own p (.lst sk), .val (.int by_)] = .ok (.val (sts ss)) [.own p (.lst sk'), .val (.int by_)] := by
  by_cases c1 : 2 ≤ by_
  · by_cases c2 : by_ ≤ 12
    · obtain ⟨r, s1, h1, h2, e1⟩ := grab_ok hs (m := 2) (by omega) (by omega)
      by_cases c3 : (r : Int) = 0
      · refine ⟨[.share by_], s1, ?_, by simp, by simp [shp]; omega, h1, fun p => ?_⟩
        · intro s hm
          rw [List.mem_singleton.mp hm]
          exact ⟨c1, c2⟩
        · rw [c3] at e1
          simp [M__law_tail, B__law_tail, c1, c2, e1, eqD_int, sts, Stp.d]
      · refine ⟨[], s1, by simp, by simp, by simp [shp], h1, fun p => ?_⟩
        have c3' : ¬ r = 0 := by omega
        simp [M__law_tail, B__law_tail, c1, c2, e1, eqD_int, sts, c3']
    · refine ⟨[], sk, by simp, by simp, by simp [shp], hs, fun p => ?_⟩
      simp [M__law_tail, B__law_tail, c1, c2, sts]
  · refine ⟨[], sk, by simp, by simp, by simp [shp], hs, fun p => ?_⟩
    simp [M__law_tail, B__law_tail, c1, sts]
def Fre (c : Cell) : Prop := c = .un ∨ ∃ d, c = .val d
theorem shp_take {ss : List Stp} (h : ∀ s ∈ ss, s.ok) (n : Nat) : shp (ss.take n) ≤ shp ss := by
  have e := shp_app (ss.take n) (ss.drop n)
  rw [List.take_append_drop] at e
  have h1 := shp_pos (a := ss.take n) fun s hs => h s (List.mem_of_mem_take hs)
  have h2 := shp_pos (a := ss.drop n) fun s hs => h s (List.mem_of_mem_drop hs)
  rw [e]
  have := Int.mul_le_mul_of_nonneg_left h2 (show 0 ≤ shp (ss.take n) by omega)
  omega
theorem fre_cases {c : Cell} (h : Fre c) : c = .un ∨ ∃ d, c = .val d := h
theorem trick_loop {b w : D} {most : Int} {c5 c8 : Cell} (hm : most ≤ 8) : ∀ (ds : List D) (ss : List Stp) (sk : List D) (c6 c7 : Cell), (∀ s ∈ ss, Stp.ok s) → ss.length ≤ 8 → shp ss ≤ 36 → Sk sk → Fre c6 → Fre c7 →
    ∃ ss' sk' c6' c7', (∀ s ∈ ss', Stp.ok s) ∧ ss'.length ≤ 8 ∧ shp ss' ≤ 36 ∧ Sk sk' ∧
      forL (gN 6) L__law_trick_3 ds
        [.own true (.lst sk), .val b, .val (.int most), .val (sts ss), .val w, c5, c6, c7, c8] = .nx [.own true (.lst sk'), .val b, .val (.int most), .val (sts ss'), .val w, c5, c6', c7', c8]
  | [], ss, sk, c6, c7, h1, h2, h3, h4, _, _ => ⟨ss, sk, c6, c7, h1, h2, h3, h4, by simp⟩
  | x :: ds, ss, sk, c6, c7, h1, h2, h3, h4, h6, h7 => by
    obtain ⟨s, s1, k1, k2, e1⟩ := step_ok h4
    rw [x_forL1]
    have hok : ∀ t ∈ ss ++ [s], Stp.ok t := fun t ht => (List.mem_append.mp ht).elim (h1 t) fun hh => by rw [List.mem_singleton.mp hh]; exact k1
    have pr := product_ok (ss := ss ++ [s]) hok (by rw [List.length_append]; simp; omega)
    have es : sts (ss ++ [s]) = .tup (ss.map Stp.d ++ [s.d]) := by simp [sts]
    by_cases c1 : (ss.length : Int) < most
    · by_cases c2 : shp (ss ++ [s]) ≤ 36
      · obtain ⟨ss', sk', c6', c7', q1, q2, q3, q4, e⟩ := trick_loop (b := b) (w := w) (c5 := c5) (c8 := c8) hm ds (ss ++ [s]) s1 (.val x) (.val s.d) hok (by rw [List.length_append]; simp; omega) c2 k2 (.inr ⟨_, rfl⟩) (.inr ⟨_, rfl⟩)
        refine ⟨ss', sk', c6', c7', q1, q2, q3, q4, ?_⟩
        rw [← e]
        rw [es] at pr ⊢
        have l1 : ss.length + 1 ≤ 16777216 := by omega
        rcases h6 with rfl | ⟨d6, rfl⟩ <;> rcases h7 with rfl | ⟨d7, rfl⟩ <;> simp [L__law_trick_3, e1, sts, pr, c1, c2, l1]
      · obtain ⟨ss', sk', c6', c7', q1, q2, q3, q4, e⟩ := trick_loop (b := b) (w := w) (c5 := c5) (c8 := c8) hm ds ss s1 (.val x) (.val s.d) h1 h2 h3 k2 (.inr ⟨_, rfl⟩) (.inr ⟨_, rfl⟩)
        refine ⟨ss', sk', c6', c7', q1, q2, q3, q4, ?_⟩
        rw [← e]
        rw [es] at pr
        have l1 : ss.length + 1 ≤ 16777216 := by omega
        rcases h6 with rfl | ⟨d6, rfl⟩ <;> rcases h7 with rfl | ⟨d7, rfl⟩ <;> simp [L__law_trick_3, e1, sts, pr, c1, c2, l1]
    · obtain ⟨ss', sk', c6', c7', q1, q2, q3, q4, e⟩ := trick_loop (b := b) (w := w) (c5 := c5) (c8 := c8) hm ds ss s1 (.val x) (.val s.d) h1 h2 h3 k2 (.inr ⟨_, rfl⟩) (.inr ⟨_, rfl⟩)
      refine ⟨ss', sk', c6', c7', q1, q2, q3, q4, ?_⟩
      rw [← e]
      rcases h6 with rfl | ⟨d6, rfl⟩ <;> rcases h7 with rfl | ⟨d7, rfl⟩ <;> simp [L__law_trick_3, e1, sts, c1]
theorem trick_ok {sk : List D} {b : Int} {m : Nat} (hs : Sk sk) (hm : 1 ≤ m) (hm2 : m ≤ 8) : ∃ ss e sk', OkT ss e ∧ ss.length ≤ m ∧ Sk sk' ∧ ∀ p, M__law_trick [.own p (.lst sk), .val (.int b), .val (.int m)] = .ok (.val (trk ss e)) [.own p (.lst sk'), .val (.int b), .val (.int m)] := by
  obtain ⟨r, s1, h1, h2, e1⟩ := grab_ok hs (m := 6) (by omega) (by omega)
  -- the first steps
  have first : ∃ ss s2 c5, (∀ s ∈ ss, Stp.ok s) ∧ ss.length ≤ 3 ∧ shp ss ≤ 36 ∧ Sk s2 ∧ Fre c5 ∧
      I__law_trick_2
        [.own true (.lst s1), .val (.int b), .val (.int m), .val (.tup []), .val (.int r), .un, .un, .un, .un] = .nx [.own true (.lst s2), .val (.int b), .val (.int m), .val (sts ss), .val (.int r), c5, .un, .un, .un] := by
    have tl : ∀ {x : Int} {y : Stp}, y.ok → shp [y] = 1 → ∃ ss s2, (∀ s ∈ y :: ss, Stp.ok s) ∧ (y :: ss).length ≤ 3 ∧ shp (y :: ss) ≤ 36 ∧ ss.length ≤ 1 ∧ Sk s2 ∧ ∀ p, M__law_tail [.own p (.lst s1), .val (.int x)] = .ok (.val (sts ss)) [.own p (.lst s2), .val (.int x)] := fun {x y} hy h1y => by
      obtain ⟨ss, s2, q1, q2, q3, q4, e⟩ := tail_ok (by_ := x) h1
      refine ⟨ss, s2, fun s hm => ?_, by simp; omega, ?_, q2, q4, e⟩
      · rcases List.mem_cons.mp hm with rfl | hm
        · exact hy
        · exact q1 s hm
      · have := shp_app [y] ss
        rw [h1y, Int.one_mul] at this
        show shp ([y] ++ ss) ≤ 36
        omega
    by_cases c0 : r = 0
    · obtain ⟨ss, s2, q1, q2, q3, q5, q4, e⟩ := tl (x := b - 1) (y := .add (-1) .turned) ⟨by decide, by decide, by decide⟩ rfl
      refine ⟨_, s2, .un, q1, q2, q3, q4, .inl rfl, ?_⟩
      have l1 : 1 + ss.length ≤ 16777216 := by omega
      have l2 : ss.length + 1 ≤ 16777216 := by omega
      subst c0
      simp [I__law_trick_2, I__law_trick_1, eqD_int, e, sts, Stp.d, Thing.name, l1, l2]
    by_cases c1 : r = 1
    · obtain ⟨ss, s2, q1, q2, q3, q5, q4, e⟩ := tl (x := b - 1) (y := .add (-1) .sum) ⟨by decide, by decide, by decide⟩ rfl
      refine ⟨_, s2, .un, q1, q2, q3, q4, .inl rfl, ?_⟩
      have l1 : 1 + ss.length ≤ 16777216 := by omega
      have l2 : ss.length + 1 ≤ 16777216 := by omega
      subst c1
      simp [I__law_trick_2, I__law_trick_1, eqD_int, e, sts, Stp.d, Thing.name, l1, l2]
    by_cases c2 : r = 2
    · obtain ⟨ss, s2, q1, q2, q3, q5, q4, e⟩ := tl (x := b + 1) (y := .add 1 .turned) ⟨by decide, by decide, by decide⟩ rfl
      refine ⟨_, s2, .un, q1, q2, q3, q4, .inl rfl, ?_⟩
      have l1 : 1 + ss.length ≤ 16777216 := by omega
      have l2 : ss.length + 1 ≤ 16777216 := by omega
      subst c2
      simp [I__law_trick_2, I__law_trick_1, eqD_int, e, sts, Stp.d, Thing.name, l1, l2]
    by_cases c3 : r = 3
    · obtain ⟨t, s2, k1, k2, e2⟩ := grab_ok h1 (m := 6) (by omega) (by omega)
      obtain ⟨d, hd, s3, k3, e3⟩ := any_ok k1 (l := things.map fun w => .str w.name) (by simp [things]) (by simp [things])
      obtain ⟨w, -, rfl⟩ := List.mem_map.mp hd
      refine ⟨[.times (2 + t), .add (2 + t) w, .share (2 + t)], s3, .val (.int (2 + t)), fun s hm => ?_, by simp, by simp [shp]; omega, k3, .inr ⟨_, rfl⟩, ?_⟩
      · simp only [List.mem_cons, List.not_mem_nil, or_false] at hm
        rcases hm with rfl | rfl | rfl
        · exact ⟨by omega, by omega⟩
        · exact ⟨by omega, by omega, by omega⟩
        · exact ⟨by omega, by omega⟩
      · subst c3
        simp [I__law_trick_2, I__law_trick_1, eqD_int, e2, e3, words_ok, sts, Stp.d]
    · have n0 : ¬ r = 0 := c0
      refine ⟨[], s1, .un, by simp, by simp, by simp [shp], h1, .inl rfl, ?_⟩
      have z1 : ¬ ((r : Int) = 1) := by omega
      have z2 : ¬ ((r : Int) = 2) := by omega
      have z3 : ¬ ((r : Int) = 3) := by omega
      simp [I__law_trick_2, I__law_trick_1, eqD_int, c0, z1, z2, z3, sts]
  obtain ⟨ss, s2, c5, q1, q2, q3, q4, q5, ef⟩ := first
  obtain ⟨t, s3, k1, k2, e2⟩ := grab_ok q4 (m := m) (by omega) (by omega)
  obtain ⟨ss', s4, c6, c7, p1, p2, p3, p4, el⟩ := trick_loop (b := .int b) (w := .int r) (most := m) (c5 := c5) (c8 := .un) (by omega) (intsD 0 t) ss s3 .un .un q1 (by omega) q3 k1 (.inl rfl) (.inl rfl)
  obtain ⟨u, s5, k3, k4, e3⟩ := grab_ok p4 (m := 11) (by omega) (by omega)
  obtain ⟨d, hd, s6, k5, e4⟩ := any_ok k3 (l := [.non, .non, .tup [.str "root"], .tup [.str "rest", .int (2 + (u : Int))], .tup [.str "rest", .int 9]]) (by simp) (by simp)
  obtain ⟨e, ee, he⟩ : ∃ e : En, d = e.d ∧ e.ok := by
    simp only [List.mem_cons, List.not_mem_nil, or_false] at hd
    rcases hd with h | h | h | h | h
    · exact ⟨.no, h, trivial⟩
    · exact ⟨.no, h, trivial⟩
    · exact ⟨.root, h, trivial⟩
    · exact ⟨.rest (2 + u), h, by omega, by omega⟩
    · exact ⟨.rest 9, h, by omega, by omega⟩
  subst ee
  refine ⟨ss'.take m, e, s6, ⟨fun s hm => p1 s (List.mem_of_mem_take hm), by rw [List.length_take]; omega, by have := shp_take p1 m; omega, he⟩, by rw [List.length_take]; omega, k5, fun p => ?_⟩
  have lt1 : (t : Int) < 4611686018427387904 := by omega
  have ct : cutD (ss'.map Stp.d) none (some (m : Int)) = (ss'.take m).map Stp.d := by rw [x_cutTo, List.map_take]
  rcases q5 with rfl | ⟨d5, rfl⟩ <;> simp [M__law_trick, B__law_trick, e1, ef, e2, lt1, el, e3, e4, trk, sts, ct]
theorem name_ok (w : Thing) : PyData.strOk w.name = true := by cases w <;> decide +kernel
theorem sd_ok {n : Nat} (s : Stp) : s.d.ok (n + 1) = true := by
  have h1 : PyData.strOk "add" = true := by decide +kernel
  have h2 : PyData.strOk "times" = true := by decide +kernel
  have h3 : PyData.strOk "share" = true := by decide +kernel
  cases s <;> simp [Stp.d, D.ok, D.okL, name_ok, h1, h2, h3]
theorem en_ok {n : Nat} (e : En) : e.d.ok (n + 1) = true := by
  have h1 : PyData.strOk "root" = true := by decide +kernel
  have h2 : PyData.strOk "rest" = true := by decide +kernel
  cases e <;> simp [En.d, D.ok, D.okL, h1, h2]
theorem sts_ok {n : Nat} (ss : List Stp) : (sts ss).ok (n + 2) = true := by
  rw [ok_tup, okL_all]
  intro d hd
  obtain ⟨s, _, rfl⟩ := List.mem_map.mp hd
  exact sd_ok s
theorem trk_ok {n : Nat} (ss : List Stp) (e : En) : (trk ss e).ok (n + 3) = true := by
  rw [ok_tup]
  simp only [D.okL, sts_ok, en_ok, Bool.and_true]
theorem shp_one {s : Stp} : shp [s] = (match s with | .share k => k | _ => 1) := by cases s <;> simp [shp]
@[simp] theorem at_last {α : Type} {l : List α} {a : α} : atI (l ++ [a]) (-1) = some a := by
  unfold atI ixN
  rw [if_neg (by omega), if_pos (by simp; omega)]
  have e : (-1 + ((l.length : Int) + 1)).toNat = l.length := by omega
  simp [e]
@[simp] theorem cut_last {l : List D} {a : D} : cutD (l ++ [a]) none (some (-1)) = l := by
  unfold cutD HT.sIx
  have e : (-1 + ((l ++ [a]).length : Int)).toNat = l.length := by simp; omega
  simp only [show (-1 : Int) < 0 by decide, if_true, e, List.drop_zero, Nat.sub_zero]
  simp
theorem seq_nx {a b : Sv} {ρ ρ' : Rho} (h : a ρ = .nx ρ') : seqS a b ρ = b ρ' := by rw [x_seq, h]
@[simp] theorem x_setW2 {ρ : Rho} {i : Nat} {o : DO} : setW i (.new o) ρ = if canSet ρ i then some (ρ.set i (.own false o)) else none := rfl
theorem Fre.can {c : Cell} (h : Fre c) : canC (some c) = true := by rcases h with rfl | ⟨d, rfl⟩ <;> rfl
theorem Fre.own {c : Cell} (h : Fre c) : isOwn (some c) = false := by rcases h with rfl | ⟨d, rfl⟩ <;> rfl
theorem Fre.v {d : D} : Fre (.val d) := .inr ⟨_, rfl⟩
theorem Fre.u : Fre .un := .inl rfl
abbrev intsL (l : List Int) : List D := l.map .int
theorem fuel_eq : fuel = 1000000 := rfl
theorem last_int {n : Int} {l : List Int} : atI (.int n :: intsL l) (-1) = some (.int (l.getLastD n)) := by
  rcases List.eq_nil_or_concat l with rfl | ⟨r, x, rfl⟩
  · exact at_last (l := []) (a := D.int n)
  · have e : (D.int n :: intsL (r ++ [x])) = (D.int n :: intsL r) ++ [.int x] := by simp
    rw [List.concat_eq_append, e, at_last]
    simp
theorem p16 {m : Nat} : (16 : Nat) ^ m = 2 ^ (4 * m) := by rw [Nat.pow_mul]
theorem len6 {l : List Int} (h : l.length = 6) : ∃ a b c d e f, l = [a, b, c, d, e, f] := by
  match l, h with
  | [a, b, c, d, e, f], _ => exact ⟨a, b, c, d, e, f, rfl⟩
theorem abs_lt_mul {a : Int} {k m : Nat} {j : Int} (ha : a.natAbs < 2 ^ m) (hj : j.natAbs ≤ 2 ^ k) : (a * j).natAbs < 2 ^ (m + k) := by
  rw [Int.natAbs_mul, Nat.pow_add]
  calc a.natAbs * j.natAbs ≤ a.natAbs * 2 ^ k := Nat.mul_le_mul_left _ hj
    _ < 2 ^ m * 2 ^ k := Nat.mul_lt_mul_of_pos_right ha (Nat.two_pow_pos k)
theorem ne5s : ¬ (("share" : Str) = "times") := by decide
theorem toN {i : Int} (h : 1 ≤ i) : ((i.toNat : Nat) : Int) = i := by omega
@[simp] theorem x_at3 {α : Type} {l : List α} : atI l (3 : Int) = l[3]? := x_atI (k := 3)
@[simp] theorem x_at4 {α : Type} {l : List α} : atI l (4 : Int) = l[4]? := x_atI (k := 4)
@[simp] theorem x_at5 {α : Type} {l : List α} : atI l (5 : Int) = l[5]? := x_atI (k := 5)
abbrev natsD (l : List Nat) : List D := l.map fun d => .int (d : Nat)
theorem gcd_step (a b : Nat) : Nat.gcd a b = Nat.gcd b (a % b) := by rw [Nat.gcd_comm a b, Nat.gcd_rec b a, Nat.gcd_comm]
def Cn (c : Cell) : Prop := canC (some c) = true
theorem cnU : Cn .un := rfl
theorem cnO {l : List D} : Cn (.own false (.lst l)) := rfl
theorem cnV {d : D} : Cn (.val d) := rfl
theorem Fre.cn {c : Cell} (h : Fre c) : Cn c := h.can
theorem x_powI {i j : Int} : powD (.int i) (.int j) = if 0 ≤ j ∧ j ≤ 1000000 ∧ i.natAbs < 2 ^ 64 then vI (i ^ j.toNat) else none := rfl
theorem modN {a b : Int} (h : 0 < b) : modD (.int a) (.int b) = vI (a % b) := by rw [x_mod, if_pos h]
theorem powN {i j : Int} {k : Nat} (h : 0 ≤ j ∧ j ≤ 1000000 ∧ i.natAbs < 2 ^ 64) (e : j.toNat = k) : powD (.int i) (.int j) = vI (i ^ k) := by rw [x_powI, if_pos h, e]
theorem mulN {i j : Int} (h : i.natAbs.log2 + j.natAbs.log2 < 1000000) : mulD (.int i) (.int j) = vI (i * j) := by rw [x_mulI, if_pos h]
def P60 : Int := 10 ^ 60
def P40 : Int := 10 ^ 40
def P18 : Int := 10 ^ 18
def P220 : Int := P60 * P60 * P60 * P40
theorem pw60 : powD (.int 10) (.int 60) = vI P60 := powN (by decide) rfl
theorem pw40 : powD (.int 10) (.int 40) = vI P40 := powN (by decide) rfl
theorem pw18 : powD (.int 10) (.int 18) = vI P18 := powN (by decide) rfl
theorem mm1 : mulD (.int P60) (.int P60) = vI (P60 * P60) := mulN (by decide +kernel)
theorem mm2 : mulD (.int (P60 * P60)) (.int P60) = vI (P60 * P60 * P60) := mulN (by decide +kernel)
theorem mm3 : mulD (.int (P60 * P60 * P60)) (.int P40) = vI P220 := mulN (by decide +kernel)
theorem p220 : 0 < P220 := by decide +kernel
theorem p18 : 0 < P18 := by decide +kernel
theorem sack_ok {ns : List Int} {k : Nat} (hk : k < 1000) : ∃ sk, Sk sk ∧ M__law_sack [.val (.scr ns), .val (.int k)] = .ok (.new (.lst sk)) [.val (.scr ns), .val (.int k)] := by
  have lk : k.log2 < 12 := log2_lt (by decide) (by omega)
  have c1 : Nat.log2 104729 + k.log2 < 1000000 := by
    have : Nat.log2 104729 = 16 := by decide
    omega
  have c3 : Nat.log2 29 + k.log2 < 1000000 := by
    have : Nat.log2 29 = 4 := by decide
    omega
  have body : ∃ c : Int, 0 ≤ c ∧ I__law_sack_1 [.val (.scr ns), .val (.int k), .val (.int (104729 * k + 55))] = .nx [.val (.scr ns), .val (.int k), .val (.int c)] := by
    by_cases h : (k : Int) < ns.length
    · have hn : k < ns.length := by omega
      have e1 : atI ns (k : Int) = some ns[k] := by rw [x_atI]; simp [hn]
      refine ⟨(if ns[k] < 0 then -ns[k] else ns[k]) % P220, Int.emod_nonneg _ (by have := p220; omega), ?_⟩
      simp [I__law_sack_1, h, hn, e1, pw60, pw40, mm1, mm2, mm3, modN p220]
    · by_cases h0 : (0 : Int) < ns.length
      · have hn : 0 < ns.length := by omega
        have e1 : atI ns (0 : Int) = some ns[0] := by rw [x_at0]; simp [hn]
        have nn := Int.emod_nonneg (if ns[0] < 0 then -ns[0] else ns[0]) (show (1000081 : Int) ≠ 0 by decide)
        refine ⟨104729 * k + 55 + (if ns[0] < 0 then -ns[0] else ns[0]) % 1000081, by omega, ?_⟩
        simp only [x_at0] at e1
        simp [I__law_sack_1, h, h0, hn, e1]
      · refine ⟨104729 * k + 55, by omega, ?_⟩
        have hn : ¬ 0 < ns.length := by omega
        simp [I__law_sack_1, h, hn]
  obtain ⟨c, hc, eb⟩ := body
  have hm : 0 ≤ c % 2147483423 ∧ c % 2147483423 < 2147483423 := by omega
  have c2 : (c % 2147483423).natAbs.log2 + Nat.log2 6 < 1000000 := by
    have h1 : (c % 2147483423).natAbs.log2 < 32 := log2_lt (by decide) (by omega)
    have : Nat.log2 6 = 2 := by decide
    omega
  by_cases g : P18 ≤ c
  · refine ⟨[.int c, .int ((c % 2147483423 * 6 + 29 * k + 2) % 2147483423 + 1)], ⟨_, _, rfl, hc, by omega, by omega⟩, ?_⟩
    simp [M__law_sack, B__law_sack, eb, x_mulI, c1, c2, c3, pw18, g]
  · refine ⟨[.int 0, .int ((c % 2147483423 * 6 + 29 * k + 2) % 2147483423 + 1)], ⟨_, _, rfl, by omega, by omega, by omega⟩, ?_⟩
    simp [M__law_sack, B__law_sack, eb, x_mulI, c1, c2, c3, pw18, g]
/-! what is a trick -/
theorem is_int_ok {i a b : Int} : M_is_int [.val (.int i), .val (.int a), .val (.int b)] = .ok (.val (.bl (decide (a ≤ i ∧ i ≤ b)))) [.val (.int i), .val (.int a), .val (.int b)] := by
  by_cases h1 : a ≤ i <;> by_cases h2 : i ≤ b <;> simp [M_is_int, B_is_int, h1, h2]
theorem in_things (w : Thing) : inD false (.str w.name) (.tup [.str "number", .str "turned", .str "sum", .str "first", .str "last", .str "one"]) = vB true := by
  cases w <;> rfl
theorem is_thing_ok (w : Thing) : M_is_thing [.val (.str w.name)] = .ok (.val (.bl true)) [.val (.str w.name)] := by
  simp [M_is_thing, B_is_thing, in_things]
theorem in_ts1 : inD false (.str "times") (.tup [.str "times", .str "share"]) = vB true := rfl
theorem in_ts2 : inD false (.str "share") (.tup [.str "times", .str "share"]) = vB true := rfl
theorem is_step_ok {s : Stp} (h : s.ok) : M_is_step [.val s.d] = .ok (.val (.bl true)) [.val s.d] := by
  cases s with
  | add t w =>
    have h : -9 ≤ t ∧ t ≤ 9 ∧ t ≠ 0 := h
    simp [M_is_step, B_is_step, Stp.d, eqD_str, eqD_int, neD_int, is_int_ok, is_thing_ok, h]
  | times k =>
    have h : 2 ≤ k ∧ k ≤ 12 := h
    simp [M_is_step, B_is_step, Stp.d, eqD_str, eqD_int, is_int_ok, in_ts1, ne4, h]
  | share k =>
    have h : 2 ≤ k ∧ k ≤ 12 := h
    simp [M_is_step, B_is_step, Stp.d, eqD_str, eqD_int, is_int_ok, in_ts2, ne3, h]
theorem ne5 : ¬ (("rest" : Str) = "root") := by decide
theorem is_end_ok {e : En} (h : e.ok) : M_is_end [.val e.d] = .ok (.val (.bl true)) [.val e.d] := by
  cases e with
  | no => simp [M_is_end, B_is_end, En.d]
  | root => simp [M_is_end, B_is_end, En.d, eqD_str, eqD_int]
  | rest k =>
    have h : 2 ≤ k ∧ k ≤ 20 := h
    simp [M_is_end, B_is_end, En.d, eqD_str, eqD_int, is_int_ok, ne5, h]
theorem shared_loop {x : D} : ∀ (ss : List Stp) (f : Int) (c : Cell), (∀ s ∈ ss, s.ok) → 0 ≤ f → f * 12 ^ ss.length ≤ 2 ^ 240 → (c = .un ∨ ∃ d, c = .val d) →
    ∃ c', forL (gN 2) L_shared_by_1 (ss.map Stp.d) [.val x, .val (.int f), c] = .nx [.val x, .val (.int (f * shp ss)), c']
  | [], f, c, _, _, _, _ => ⟨c, by simp [shp]⟩
  | s :: ss, f, c, h, hf, hb, hc => by
    have hs := h s (List.mem_cons_self ..)
    have hr := fun t ht => h t (List.mem_cons_of_mem s ht)
    have p12 : (0 : Int) < 12 ^ ss.length := Int.pow_pos (by decide)
    have hb' : f * 12 * 12 ^ ss.length ≤ 2 ^ 240 := by rw [List.length_cons, Int.pow_succ, Int.mul_comm (12 ^ ss.length), ← Int.mul_assoc] at hb; exact hb
    have fb : f ≤ 2 ^ 240 := by
      have h1 : f * 12 * 1 ≤ f * 12 * 12 ^ ss.length := Int.mul_le_mul_of_nonneg_left (by omega) (by omega)
      omega
    have c2 : f.natAbs.log2 < 241 := log2_lt (by decide) (by omega)
    have step : ∀ k : Int, 1 ≤ k → k ≤ 12 → f * k * 12 ^ ss.length ≤ 2 ^ 240 := fun k k1 k2 => Int.le_trans (Int.mul_le_mul_of_nonneg_right (Int.mul_le_mul_of_nonneg_left k2 hf) (by omega)) hb'
    have st1 := step 1 (by omega) (by omega)
    rw [Int.mul_one] at st1
    rw [List.map_cons, x_forL1]
    cases s with
    | add t w =>
      obtain ⟨c', e⟩ := shared_loop (x := x) ss f (.val (Stp.add t w).d) hr hf st1 (.inr ⟨_, rfl⟩)
      refine ⟨c', ?_⟩
      rcases hc with rfl | ⟨d, rfl⟩ <;> simp [L_shared_by_1, Stp.d, eqD_str, ne1, shp] <;> simpa [Stp.d] using e
    | times k =>
      obtain ⟨c', e⟩ := shared_loop (x := x) ss f (.val (Stp.times k).d) hr hf st1 (.inr ⟨_, rfl⟩)
      refine ⟨c', ?_⟩
      rcases hc with rfl | ⟨d, rfl⟩ <;> simp [L_shared_by_1, Stp.d, eqD_str, ne2, shp] <;> simpa [Stp.d] using e
    | share k =>
      have hk : 2 ≤ k ∧ k ≤ 12 := hs
      obtain ⟨c', e⟩ := shared_loop (x := x) ss (f * k) (.val (Stp.share k).d) hr (Int.mul_nonneg hf (by omega)) (step k (by omega) hk.2) (.inr ⟨_, rfl⟩)
      refine ⟨c', ?_⟩
      have l1 : f.natAbs.log2 + k.natAbs.log2 < 1000000 := by
        have : k.natAbs.log2 < 10 := log2_lt (by decide) (by omega)
        omega
      rcases hc with rfl | ⟨d, rfl⟩ <;> simp [L_shared_by_1, Stp.d, eqD_str, x_mulI, l1, shp] <;> simpa [Stp.d, Int.mul_assoc] using e
theorem shared_ok {ss : List Stp} (h : ∀ s ∈ ss, s.ok) (hl : ss.length ≤ 60) : M_shared_by [.val (sts ss)] = .ok (.val (.int (shp ss))) [.val (sts ss)] := by
  obtain ⟨c', e⟩ := shared_loop (x := sts ss) ss 1 .un h (by decide) (pow12 hl) (.inl rfl)
  simp only [Int.one_mul] at e
  simp [M_shared_by, B_shared_by, e]
theorem all_true {l : List D} (h : ∀ d ∈ l, d = .bl true) : allD [.lst l] = vB true := by
  have e : asBls l = some (l.map fun _ => true) := by
    induction l with
    | nil => rfl
    | cons a l ih =>
      have := h a (List.mem_cons_self ..)
      subst this
      simp [asBls, ih fun d hd => h d (List.mem_cons_of_mem _ hd)]
  simp [allD, onBls, e]
theorem is_trick_ok {ss : List Stp} {e : En} (ht : OkT ss e) : M_is_trick [.val (trk ss e)] = .ok (.val (.bl true)) [.val (trk ss e)] := by
  have l8 : ¬ (8 : Int) < ss.length := by have := ht.len; omega
  have lc := lc_map (i := 1) (f := callF M_is_step (consA (vE 1) nilA)) (h := fun _ => .bl true) (ss.map Stp.d) [] [.val (trk ss e), .un] rfl (fun d hd => by
    obtain ⟨s, hs, rfl⟩ := List.mem_map.mp hd
    simp [is_step_ok (ht.st s hs)]) (by have := ht.len; simp; omega)
  have al : allD [.lst ((ss.map Stp.d).map fun _ => .bl true)] = vB true := all_true fun d hd => by
    obtain ⟨_, _, rfl⟩ := List.mem_map.mp hd
    rfl
  simp at lc al
  have s36 := ht.shp
  simp [M_is_trick, B_is_trick, neD_int, is_end_ok ht.en, l8, lc, al, shared_ok ht.st (by have := ht.len; omega), s36]
theorem rng1_ok {f : Ev} {ρ : Rho} {i : Int} {n : Nat} (h : f ρ = .ok (.val (.int i)) ρ) (e : i.toNat = n) (h1 : i < 1000000000) (h2 : -1000000000 < i) : rng1 f ρ = .ok (intsD 0 n) ρ := by
  rw [x_rng1, x_bindG, h]
  show (if -(2 ^ 62) ≤ i ∧ i < 2 ^ 62 then _ else _) = _
  rw [if_pos ⟨by omega, by omega⟩, e]
theorem rng2_ok {f g : Ev} {ρ : Rho} {i j : Int} {n : Nat} (h : f ρ = .ok (.val (.int i)) ρ) (h' : g ρ = .ok (.val (.int j)) ρ) (e : (j - i).toNat = n) (h1 : i < 1000000000) (h2 : -1000000000 < i) (h3 : j < 1000000000) (h4 : -1000000000 < j) : rng2 f g ρ = .ok (intsD i n) ρ := by
  unfold rng2
  rw [x_bindG, h]
  show bindG g _ ρ = _
  rw [x_bindG, h']
  show (if -(2 ^ 62) ≤ i ∧ i < 2 ^ 62 ∧ -(2 ^ 62) ≤ j ∧ j < 2 ^ 62 then _ else _) = _
  rw [if_pos ⟨by omega, by omega, by omega, by omega⟩, e]
theorem rngD_ok {f g : Ev} {ρ : Rho} {i j : Int} {n : Nat} (h : f ρ = .ok (.val (.int i)) ρ) (h' : g ρ = .ok (.val (.int j)) ρ) (e : (i - j).toNat = n) (h1 : i < 1000000000) (h2 : -1000000000 < i) (h3 : j < 1000000000) (h4 : -1000000000 < j) : rngD f g ρ = .ok (downD i n) ρ := by
  unfold rngD
  rw [x_bindG, h]
  show bindG g _ ρ = _
  rw [x_bindG, h']
  show (if -(2 ^ 62) ≤ i ∧ i < 2 ^ 62 ∧ -(2 ^ 62) ≤ j ∧ j < 2 ^ 62 then _ else _) = _
  rw [if_pos ⟨by omega, by omega, by omega, by omega⟩, e]
theorem forL_inv {gt : Gv} {b : Sv} {I J : Rho → Prop} (hJ : ∀ ρ, J ρ → I ρ) (step : ∀ d ρ, I ρ → ∃ ρ1 ρ', gt d ρ = some ρ1 ∧ b ρ1 = .nx ρ' ∧ J ρ') : ∀ (ds : List D) (ρ : Rho), I ρ → ∃ ρ', forL gt b ds ρ = .nx ρ' ∧ I ρ' ∧ (ds ≠ [] → J ρ')
  | [], ρ, h => ⟨ρ, rfl, h, fun z => absurd rfl z⟩
  | d :: ds, ρ, h => by
    obtain ⟨ρ1, ρ2, e1, e2, h2⟩ := step d ρ h
    obtain ⟨ρ3, e3, h3, h4⟩ := forL_inv (gt := gt) (b := b) hJ step ds ρ2 (hJ _ h2)
    refine ⟨ρ3, ?_, h3, fun _ => ?_⟩
    · rw [x_forL1, e1]
      simp only [e2, e3]
    · cases ds with
      | nil => cases e3; exact h2
      | cons d' ds => exact h4 (by simp)
theorem forL_invM {gt : Gv} {b : Sv} {I : Rho → Prop} : ∀ (ds : List D) (ρ : Rho), (∀ d ∈ ds, ∀ ρ, I ρ → ∃ ρ1 ρ', gt d ρ = some ρ1 ∧ b ρ1 = .nx ρ' ∧ I ρ') → I ρ → ∃ ρ', forL gt b ds ρ = .nx ρ' ∧ I ρ'
  | [], ρ, _, h => ⟨ρ, rfl, h⟩
  | d :: ds, ρ, step, h => by
    obtain ⟨ρ1, ρ2, e1, e2, h2⟩ := step d (List.mem_cons_self ..) ρ h
    obtain ⟨ρ3, e3, h3⟩ := forL_invM ds ρ2 (fun d hd => step d (List.mem_cons_of_mem _ hd)) h2
    refine ⟨ρ3, ?_, h3⟩
    rw [x_forL1, e1]
    simp only [e2, e3]
/-- a loop of the law over range(max(1, min(m, len(script)))) -/
theorem turns_of {ns : List Int} {ρ : Rho} {m : Int} {i : Nat} (h0 : ρ[0]? = some (.val (.scr ns))) (hm : 0 ≤ m ∧ m ≤ 1000) : ∃ n : Nat, n ≤ 1000 ∧ (rng1 (bltE maxD2 (consA (cE (.int 1)) (consA (bltE minD2 (consA (cE (.int m)) (consA (bltE lenD (consA (vE 0) nilA)) nilA))) nilA)))) ρ = .ok (intsD 0 n) ρ := by
  have hn : ∃ n : Nat, n ≤ 1000 ∧ (if ((if (ns.length : Int) < m then (ns.length : Int) else m) > 1) then (if (ns.length : Int) < m then (ns.length : Int) else m) else 1 : Int) = n := by
    refine ⟨(if ((if (ns.length : Int) < m then (ns.length : Int) else m) > 1) then (if (ns.length : Int) < m then (ns.length : Int) else m) else 1 : Int).toNat, ?_, ?_⟩ <;> (split <;> split <;> omega)
  obtain ⟨n, hn, e⟩ := hn
  have r62 : (n : Int) < 4611686018427387904 := by omega
  have r63 : (-4611686018427387904 : Int) ≤ n := by omega
  refine ⟨n, hn, ?_⟩
  simp only [x_rng1, x_bindG, x_blt, x_bindA, x_consA, x_cE, x_vE, x_nilA, x_fz1, x_liftL, x_gets1, x_gets0, x_get1, h0, x_len3, vI, minD2, maxD2]
  rw [e]
  simp [r62, r63]
theorem mem_intsD {n : Nat} {d : D} (h : d ∈ intsD 0 n) : ∃ k : Nat, k < n ∧ d = .int k := by
  unfold intsD at h
  obtain ⟨k, hk, rfl⟩ := List.mem_map.mp h
  exact ⟨k, List.mem_range.mp hk, by simp⟩
/-- a comprehension over the values of some things -/
theorem lc_al {α : Type} {g : α → D} {gt : Gv} {ct : Tv} {f : Ev} {vs : List Nat} {ρ : Rho} {h : α → D} {c : α → Bool} (st : α → Rho) : ∀ (ds : List α) (acc : List D), (∀ d ∈ ds, gt (g d) ρ = some (st d) ∧ ct (st d) = .ok (c d) (st d) ∧ (c d = true → f (st d) = .ok (.val (h d)) (st d)) ∧ wipeR vs (st d) = some ρ) → acc.length + ds.length ≤ 16777216 →
    lcL gt ct f vs (ds.map g) acc ρ = .ok (acc ++ (ds.filter c).map h) ρ
  | [], acc, _, _ => by simp [lcL]
  | d :: ds, acc, hf, hl => by
    obtain ⟨e0, e1, e2, e3⟩ := hf d (List.mem_cons_self ..)
    have sz : acc.length < sizeLine := by rw [x_size]; simp at hl; omega
    rw [List.map_cons, lcL, e0]
    simp only [e1]
    cases hc : c d with
    | true =>
      have ih := lc_al (g := g) (gt := gt) (ct := ct) (f := f) (vs := vs) (ρ := ρ) (h := h) (c := c) st ds (acc ++ [h d]) (fun e he => hf e (List.mem_cons_of_mem _ he)) (by simp at hl ⊢; omega)
      simp only [if_true, e2 hc, x_fz1, Option.bind_some, x_grab1, sz, e3]
      rw [ih]
      simp [hc]
    | false =>
      have ih := lc_al (g := g) (gt := gt) (ct := ct) (f := f) (vs := vs) (ρ := ρ) (h := h) (c := c) st ds acc (fun e he => hf e (List.mem_cons_of_mem _ he)) (by simp at hl ⊢; omega)
      simp only [e3]
      simp [ih, hc]
theorem lc_any {gt : Gv} {ct : Tv} {f : Ev} {vs : List Nat} {ρ : Rho} {h : D → D} {c : D → Bool} (st : D → Rho) : ∀ (ds acc : List D), (∀ d ∈ ds, gt d ρ = some (st d) ∧ ct (st d) = .ok (c d) (st d) ∧ (c d = true → f (st d) = .ok (.val (h d)) (st d)) ∧ wipeR vs (st d) = some ρ) → acc.length + ds.length ≤ 16777216 →
    lcL gt ct f vs ds acc ρ = .ok (acc ++ (ds.filter c).map h) ρ
  | [], acc, _, _ => by simp [lcL]
  | d :: ds, acc, hf, hl => by
    obtain ⟨e0, e1, e2, e3⟩ := hf d (List.mem_cons_self ..)
    have sz : acc.length < sizeLine := by rw [x_size]; simp at hl; omega
    rw [lcL, e0]
    simp only [e1]
    cases hc : c d with
    | true =>
      have ih := lc_any (gt := gt) (ct := ct) (f := f) (vs := vs) (ρ := ρ) (h := h) (c := c) st ds (acc ++ [h d]) (fun e he => hf e (List.mem_cons_of_mem _ he)) (by simp at hl ⊢; omega)
      simp only [if_true, e2 hc, x_fz1, Option.bind_some, x_grab1, sz, e3]
      rw [ih]
      simp [hc]
    | false =>
      have ih := lc_any (gt := gt) (ct := ct) (f := f) (vs := vs) (ρ := ρ) (h := h) (c := c) st ds acc (fun e he => hf e (List.mem_cons_of_mem _ he)) (by simp at hl ⊢; omega)
      simp only [e3]
      simp [ih, hc]
theorem mul_lstI {l : List D} {k : Int} {n : Nat} (e : k.toNat = n) (h1 : -1000000 ≤ k) (h2 : k ≤ 1000000) (h3 : l.length * n ≤ 16777216) : mulD (.lst l) (.int k) = some (.new (.lst (List.replicate n l).flatten)) := by
  subst e
  show (if -(2 ^ 63) ≤ k ∧ k < 2 ^ 63 ∧ l.length * k.toNat ≤ sizeLine then some (Wv.new (DO.lst (List.replicate k.toNat l).flatten)) else none) = _
  rw [if_pos ⟨by omega, by omega, by rw [x_size]; exact h3⟩]
theorem mul_lst {l : List D} {n : Nat} (h2 : n ≤ 1000000) (h3 : l.length * n ≤ 16777216) : mulD (.lst l) (.int n) = some (.new (.lst (List.replicate n l).flatten)) := mul_lstI (Int.toNat_natCast _) (by omega) (by omega) h3
theorem bin_v {s : D → D → Option Wv} {f h : Ev} {ρ : Rho} {d1 d2 : D} {w1 w2 w : Wv} (h1 : f ρ = .ok w1 ρ) (z1 : fzW w1 = some (.val d1)) (h2 : h ρ = .ok w2 ρ) (z2 : fzW w2 = some (.val d2)) (hs : s d1 d2 = some w) : binE s f h ρ = .ok w ρ := by
  simp [h1, z1, h2, z2, hs]
theorem ints_nat {n : Nat} : intsD 0 n = (List.range' 0 n).map fun i => .int (i : Nat) := by
  unfold intsD
  rw [List.range_eq_range']
  refine List.map_congr_left fun i _ => ?_
  simp
theorem forL_nx {gt : Gv} {b : Sv} {d : D} {ds : List D} {ρ ρ1 ρ2 : Rho} (h1 : gt d ρ = some ρ1) (h2 : b ρ1 = .nx ρ2) : forL gt b (d :: ds) ρ = forL gt b ds ρ2 := by
  rw [x_forL1, h1]; simp only [h2]
theorem forL_rt {gt : Gv} {b : Sv} {d : D} {ds : List D} {ρ ρ1 ρ2 : Rho} {w : Wv} (h1 : gt d ρ = some ρ1) (h2 : b ρ1 = .rt w ρ2) : forL gt b (d :: ds) ρ = .rt w ρ2 := by
  rw [x_forL1, h1]; simp only [h2]
theorem lcE_ok {fi : Iv} {gt : Gv} {c : Tv} {f : Ev} {vs : List Nat} {ρ ρ2 ρ3 : Rho} {ds acc : List D} (h1 : fi ρ = .ok ds ρ) (h2 : wipeR vs ρ = some ρ2) (h3 : lcL gt c f vs ds [] ρ2 = .ok acc ρ3) : lcE fi gt c f vs ρ = .ok (.new (.lst acc)) ρ3 := by
  rw [x_lcE, h1]
  simp only [h2, h3]
theorem setF_new {i : Nat} {f : Ev} {ρ ρ1 : Rho} {l : List D} (h : f ρ = .ok (.new (.lst l)) ρ1) (hc : canC ρ1[i]? = true) : setF i f ρ = .nx (ρ1.set i (.val (.lst l))) := by
  rw [x_setF, x_bindS, h]
  simp [hc]
theorem setF_val {i : Nat} {f : Ev} {ρ ρ1 : Rho} {d : D} (h : f ρ = .ok (.val d) ρ1) (hc : canC ρ1[i]? = true) : setF i f ρ = .nx (ρ1.set i (.val d)) := by
  rw [x_setF, x_bindS, h]
  simp [hc]
theorem any_nats {x : Nat} : ∀ {l : List Nat}, (natsD l).any (fun y => D.eqv y (.int x)) = decide (x ∈ l)
  | [] => by simp [natsD]
  | a :: l => by
    have ih := any_nats (x := x) (l := l)
    have e : D.eqv (.int (a : Nat)) (.int (x : Nat)) = decide (x = a) := by
      simp only [D.eqv, D.py, PyData.eqv]
      rw [Bool.eq_iff_iff]
      simp
      omega
    show (D.eqv (.int (a : Nat)) (.int (x : Nat)) || (natsD l).any _) = _
    rw [ih, e]
    simp
theorem flat_nats {l : List Nat} : (natsD l).all flatD = true := by
  rw [List.all_eq_true]
  intro d hd
  obtain ⟨t, _, rfl⟩ := List.mem_map.mp hd
  rfl
theorem in_nats {x : Nat} {l : List Nat} : inD false (.int x) (.lst (natsD l)) = vB (decide (x ∈ l)) := by
  unfold inD
  simp only [x_seqL, flat_nats, any_nats]
  rfl
theorem lc_nats {i : Nat} {f : Ev} {ct : Tv} {ρ : Rho} {lo n : Nat} {c : Nat → Bool} {h : Nat → Nat} (h0 : ρ[i]? = some .un)
    (hf : ∀ k, k < n → ct (ρ.set i (.val (.int (lo + k : Nat)))) = .ok (c (lo + k)) (ρ.set i (.val (.int (lo + k : Nat)))) ∧ (c (lo + k) = true → f (ρ.set i (.val (.int (lo + k : Nat)))) = .ok (.val (.int (h (lo + k) : Nat))) (ρ.set i (.val (.int (lo + k : Nat)))))) (hl : n ≤ 1000000) :
    lcL (gN i) ct f [i] (intsD lo n) [] ρ = .ok (natsD ((((List.range n).map (lo + ·)).filter c).map h)) ρ := by
  have hi : i < ρ.length := (List.getElem?_eq_some_iff.mp h0).1
  have s1 : List.set ρ i .un = ρ := by
    apply List.ext_getElem?
    intro j
    by_cases hj : i = j
    · subst hj; rw [List.getElem?_set_self hi, h0]
    · rw [List.getElem?_set_ne hj]
  have lc := lc_any (gt := gN i) (ct := ct) (f := f) (vs := [i]) (ρ := ρ) (h := fun d => match d with | .int z => .int (h z.toNat : Nat) | d => d) (c := fun d => match d with | .int z => c z.toNat | _ => false) (fun d => ρ.set i (.val d)) (intsD lo n) [] (fun d hd => by
    unfold intsD at hd
    obtain ⟨k, hk, rfl⟩ := List.mem_map.mp hd
    have hk := List.mem_range.mp hk
    obtain ⟨a1, a2⟩ := hf k hk
    have c1 : canSet ρ i = true := by rw [x_canSet, h0]; rfl
    have w1 : wipeR [i] (ρ.set i (.val (.int ((lo : Int) + (k : Nat))))) = some ρ := by simp [List.getElem?_set_self hi, s1]
    have en : ((lo : Int) + (k : Nat)).toNat = lo + k := by omega
    have ec : ((lo + k : Nat) : Int) = (lo : Int) + (k : Nat) := by omega
    rw [ec] at a1 a2
    refine ⟨by rw [x_gN, c1]; rfl, ?_, ?_, w1⟩
    · show ct _ = .ok (c ((lo : Int) + (k : Nat)).toNat) _
      rw [en]; exact a1
    · intro hc
      have hc' : c ((lo : Int) + (k : Nat)).toNat = true := hc
      rw [en] at hc'
      show f _ = .ok (.val (.int (h ((lo : Int) + (k : Nat)).toNat : Nat))) _
      rw [en]
      exact a2 hc') (by simp [intsD]; omega)
  have e : ((intsD (lo : Int) n).filter (fun d => match d with | .int z => c z.toNat | _ => false)).map (fun d => match d with | .int z => D.int (h z.toNat : Nat) | d => d) = natsD ((((List.range n).map (lo + ·)).filter c).map h) := by
    have : intsD (lo : Int) n = natsD ((List.range n).map (lo + ·)) := by
      unfold intsD natsD
      rw [List.map_map]
      refine List.map_congr_left fun k _ => ?_
      show D.int _ = D.int _
      congr 1
    rw [this]
    unfold natsD
    rw [List.filter_map, List.map_map, List.map_map]
    rfl
  rw [e] at lc
  exact lc
theorem mod_nat {i d : Nat} (hd : 0 < d) : modD (.int (i : Nat)) (.int (d : Nat)) = vI ((i % d : Nat) : Int) := by
  have : (0 : Int) < (d : Nat) := by omega
  rw [x_mod, if_pos this]
  simp
theorem asInts_nats : ∀ l : List Nat, asInts (natsD l) = some (l.map fun (n : Nat) => (n : Int))
  | [] => rfl
  | a :: l => by
    have ih := asInts_nats l
    show asInts (D.int (a : Nat) :: natsD l) = _
    simp only [asInts, ih]
    rfl
theorem all_bls {l : List Bool} : allD [.lst (l.map .bl)] = vB (l.all id) := by
  have e : asBls (l.map .bl) = some l := by
    induction l with
    | nil => rfl
    | cons a l ih =>
      show (asBls (l.map .bl)).map _ = _
      rw [ih]; rfl
  simp [allD, onBls, e]
theorem nil_filter {α : Type} {f : α → Bool} : ∀ {l : List α}, decide (l.filter f = []) = l.all fun x => !f x
  | [] => rfl
  | a :: l => by
    have ih := nil_filter (f := f) (l := l)
    rw [List.filter_cons, List.all_cons, ← ih]
    cases f a <;> simp
theorem seq_rt {a b : Sv} {ρ ρ' : Rho} {w : Wv} (h : a ρ = .rt w ρ') : seqS a b ρ = .rt w ρ' := by rw [x_seq, h]
theorem retS_of {f : Ev} {ρ ρ' : Rho} {w : Wv} (h : f ρ = .ok w ρ') : retS f ρ = .rt w ρ' := by rw [x_retS, x_bindN, h]
/-! what the law takes for a trick -/
def Stp.okb : Stp → Bool
  | .add t _ => decide (-9 ≤ t ∧ t ≤ 9 ∧ t ≠ 0)
  | .times k => decide (2 ≤ k ∧ k ≤ 12)
  | .share k => decide (2 ≤ k ∧ k ≤ 12)
theorem okb_iff {s : Stp} : s.okb = true ↔ s.ok := by cases s <;> simp [Stp.okb, Stp.ok]
theorem liw_ok {i a b : Int} : M__law_is_whole [.val (.int i), .val (.int a), .val (.int b)] = .ok (.val (.bl (decide (a ≤ i ∧ i ≤ b)))) [.val (.int i), .val (.int a), .val (.int b)] := by
  by_cases h1 : a ≤ i <;> by_cases h2 : i ≤ b <;> simp [M__law_is_whole, B__law_is_whole, h1, h2]
theorem in_231 : inD true (.int 3) (.tup [.int 2, .int 3]) = vB false := rfl
theorem in_232 : inD true (.int 2) (.tup [.int 2, .int 3]) = vB false := rfl
theorem in_121 : inD true (.int 1) (.tup [.int 1, .int 2]) = vB false := rfl
theorem in_122 : inD true (.int 2) (.tup [.int 1, .int 2]) = vB false := rfl
theorem in_words (w : Thing) : inD false (.str w.name) (.lst (things.map fun w => .str w.name)) = vB true := by cases w <;> rfl
theorem lis_ok (s : Stp) : M__law_is_step [.val s.d] = .ok (.val (.bl s.okb)) [.val s.d] := by
  cases s with
  | add t w =>
    have wo := words_ok
    have iw := in_words w
    generalize things.map (fun w => D.str w.name) = W at *
    by_cases h1 : -9 ≤ t ∧ t ≤ 9
    · by_cases h2 : t = 0
      · simp [M__law_is_step, B__law_is_step, Stp.d, Stp.okb, eqD_int, neD_str, in_231, liw_ok, h2]
      · simp [M__law_is_step, B__law_is_step, Stp.d, Stp.okb, eqD_int, neD_str, in_231, liw_ok, h1, h2, wo, iw]
    · have h3 : ¬ (-9 ≤ t ∧ t ≤ 9 ∧ t ≠ 0) := fun z => h1 ⟨z.1, z.2.1⟩
      have e1 : decide (-9 ≤ t ∧ t ≤ 9) = false := decide_eq_false h1
      have e3 : decide (-9 ≤ t ∧ t ≤ 9 ∧ t ≠ 0) = false := decide_eq_false h3
      have lw := liw_ok (i := t) (a := -9) (b := 9)
      rw [e1] at lw
      simp only [Stp.okb, e3]
      simp [M__law_is_step, B__law_is_step, Stp.d, eqD_int, neD_str, in_231, lw]
  | times k =>
    have lw := liw_ok (i := k) (a := 2) (b := 12)
    simp only [Stp.okb]
    generalize decide (2 ≤ k ∧ k ≤ 12) = c at *
    simp [M__law_is_step, B__law_is_step, Stp.d, eqD_int, in_232, in_ts1, lw]
  | share k =>
    have lw := liw_ok (i := k) (a := 2) (b := 12)
    simp only [Stp.okb]
    generalize decide (2 ≤ k ∧ k ≤ 12) = c at *
    simp [M__law_is_step, B__law_is_step, Stp.d, eqD_int, in_232, in_ts2, lw]
theorem lie_ok {e : En} (h : e.ok) : M__law_is_end [.val e.d] = .ok (.val (.bl true)) [.val e.d] := by
  cases e with
  | no => simp [M__law_is_end, B__law_is_end, En.d]
  | root => simp [M__law_is_end, B__law_is_end, En.d, eqD_str, eqD_int, in_121]
  | rest k =>
    have h : 2 ≤ k ∧ k ≤ 20 := h
    simp [M__law_is_end, B__law_is_end, En.d, eqD_str, eqD_int, in_122, liw_ok, h]
def okTb (ss : List Stp) : Bool := decide (ss.length ≤ 8) && (ss.all Stp.okb && decide (shp ss ≤ 36))
theorem okTb_ok {ss : List Stp} {en : En} (he : en.ok) (h : okTb ss = true) : OkT ss en := by
  unfold okTb at h
  simp only [Bool.and_eq_true, decide_eq_true_eq, List.all_eq_true] at h
  exact ⟨fun s hs => okb_iff.mp (h.2.1 s hs), h.1, h.2.2, he⟩
theorem bad_steps {ss : List Stp} : lcL (gN 1) (notT (valT (callF M__law_is_step (consA (vE 1) (nilA))))) (vE 1) [1] (ss.map Stp.d) [] = lcL (gN 1) (notT (valT (callF M__law_is_step (consA (vE 1) (nilA))))) (vE 1) [1] (ss.map Stp.d) [] := rfl
theorem bs_test {A : Cell} {d : D} {r : Bool} (h : M__law_is_step [.val d] = .ok (.val (.bl r)) [.val d]) : notT (valT (callF M__law_is_step (consA (vE 1) (nilA)))) [A, .val d] = .ok (!r) [A, .val d] := by
  simp [h]
theorem bs_lc {A : D} {ss : List Stp} (hl : ss.length ≤ 1000) : lcL (gN 1) (notT (valT (callF M__law_is_step (consA (vE 1) (nilA))))) (vE 1) [1] (ss.map Stp.d) [] [.val A, .un] = .ok ((ss.filter fun s => !s.okb).map Stp.d) [.val A, .un] := by
  have lc := lc_al (g := Stp.d) (gt := gN 1) (ct := notT (valT (callF M__law_is_step (consA (vE 1) (nilA))))) (f := vE 1) (vs := [1]) (ρ := [.val A, .un]) (h := Stp.d) (c := fun s => !s.okb) (fun s => [.val A, .val s.d]) ss [] (fun s _ => ⟨rfl, bs_test (lis_ok s), fun _ => rfl, rfl⟩) (by show 0 + _ ≤ _; omega)
  exact lc
theorem nil_steps {ss : List Stp} : neD (.lst (ss.map Stp.d)) (.lst []) = vB (!decide (ss = [])) := by
  have k0 : (D.lst []).ok 40 = true := rfl
  have k1 : (D.lst (ss.map Stp.d)).ok 40 = true := by
    rw [ok_lst, okL_all]
    intro d hd
    obtain ⟨s, _, rfl⟩ := List.mem_map.mp hd
    exact sd_ok s
  rw [neD_of k1 k0]
  cases ss with
  | nil => rfl
  | cons s ss =>
    rw [List.map_cons, eqv_lst, eqvAll_cn]
    rfl
theorem lit_frame1 {S E : D} (hE : M__law_is_end [.val E] = .ok (.val (.bl true)) [.val E]) {l : List D} (hS : S = .tup l) (h : (8 : Int) < l.length) :
    M__law_is_trick [.val (.tup [S, E])] = .ok (.val (.bl false)) [.val (.tup [S, E])] := by
  subst hS
  simp [M__law_is_trick, B__law_is_trick, neD_int, hE, h]
theorem lit_frame {E : D} {l K : List D} {n : Bool} {p : Int} (hE : M__law_is_end [.val E] = .ok (.val (.bl true)) [.val E]) (h : ¬ (8 : Int) < l.length)
    (lc : lcL (gN 1) (notT (valT (callF M__law_is_step (consA (vE 1) (nilA))))) (vE 1) [1] l [] [.val (.tup [.tup l, E]), .un] = .ok K [.val (.tup [.tup l, E]), .un]) (hn : neD (.lst K) (.lst []) = vB (!n)) (hp : n = true → M__law_product [.val (.tup l)] = .ok (.val (.int p)) [.val (.tup l)]) :
    M__law_is_trick [.val (.tup [.tup l, E])] = .ok (.val (.bl (n && decide (p ≤ 36)))) [.val (.tup [.tup l, E])] := by
  have s1 : ifS (orT (notT (valT (unE (isiD "tuple") (vE 0)))) (orT (valT (binE neD (bltE lenD (consA (vE 0) (nilA))) (cE (.int 2)))) (notT (valT (callF M__law_is_end (consA (binE ixD (vE 0) (cE (.int 1))) (nilA))))))) (retS (cE (.bl false))) (nxS) [.val (.tup [.tup l, E]), .un] = .nx [.val (.tup [.tup l, E]), .un] := by simp [neD_int, hE]
  have s2 : ifS (orT (notT (valT (unE (isiD "tuple") (binE ixD (vE 0) (cE (.int 0)))))) (valT (binE gtD (bltE lenD (consA (binE ixD (vE 0) (cE (.int 0))) (nilA))) (cE (.int 8))))) (retS (cE (.bl false))) (nxS) [.val (.tup [.tup l, E]), .un] = .nx [.val (.tup [.tup l, E]), .un] := by simp [h]
  have f1 : seqI (binE ixD (vE 0) (cE (.int 0))) [.val (.tup [.tup l, E]), .un] = .ok l [.val (.tup [.tup l, E]), .un] := by simp
  have f := lcE_ok (vs := [1]) f1 rfl lc
  have f3 := bin_v (s := neD) (h := lstE nilA) (d1 := .lst K) (d2 := .lst []) (w1 := .new (.lst K)) (w2 := .new (.lst [])) f rfl (by simp) rfl hn
  cases n with
  | false =>
    have s3 : ifS (valT (binE neD (lcE (seqI (binE ixD (vE 0) (cE (.int 0)))) (gN 1) (notT (valT (callF M__law_is_step (consA (vE 1) (nilA))))) (vE 1) [1]) (lstE (nilA)))) (retS (cE (.bl false))) (nxS) [.val (.tup [.tup l, E]), .un] = .rt (.val (.bl false)) [.val (.tup [.tup l, E]), .un] := by
      rw [x_ifS, x_valT, f3]
      rfl
    have all : B__law_is_trick [.val (.tup [.tup l, E]), .un] = .rt (.val (.bl false)) [.val (.tup [.tup l, E]), .un] := by
      unfold B__law_is_trick
      rw [seq_nx s1, seq_nx s2, x_seq, s3]
    unfold M__law_is_trick
    simp [all]
  | true =>
    have s3 : ifS (valT (binE neD (lcE (seqI (binE ixD (vE 0) (cE (.int 0)))) (gN 1) (notT (valT (callF M__law_is_step (consA (vE 1) (nilA))))) (vE 1) [1]) (lstE (nilA)))) (retS (cE (.bl false))) (nxS) [.val (.tup [.tup l, E]), .un] = .nx [.val (.tup [.tup l, E]), .un] := by
      rw [x_ifS, x_valT, f3]
      rfl
    have hp' := hp rfl
    have s4 : retS (binE leD (callF M__law_product (consA (binE ixD (vE 0) (cE (.int 0))) (nilA))) (cE (.int 36))) [.val (.tup [.tup l, E]), .un] = .rt (.val (.bl (decide (p ≤ 36)))) [.val (.tup [.tup l, E]), .un] := by simp [hp']
    have all : B__law_is_trick [.val (.tup [.tup l, E]), .un] = .rt (.val (.bl (decide (p ≤ 36)))) [.val (.tup [.tup l, E]), .un] := by
      unfold B__law_is_trick
      rw [seq_nx s1, seq_nx s2, seq_nx s3, s4]
    unfold M__law_is_trick
    simp [all]
theorem lit_ok {ss : List Stp} {en : En} (he : en.ok) (hl : ss.length ≤ 60) : M__law_is_trick [.val (trk ss en)] = .ok (.val (.bl (okTb ss))) [.val (trk ss en)] := by
  unfold okTb
  by_cases h : ss.length ≤ 8
  · have al : decide ((ss.filter fun s => !s.okb) = []) = ss.all Stp.okb := by
      have := nil_filter (f := fun s : Stp => !s.okb) (l := ss)
      simp only [Bool.not_not] at this
      exact this
    have f := lit_frame (E := en.d) (l := ss.map Stp.d) (n := ss.all Stp.okb) (p := shp ss) (lie_ok he) (by rw [List.length_map]; omega) (bs_lc (by omega)) (by rw [nil_steps, al]) (fun ha => product_ok (fun s hs => okb_iff.mp (List.all_eq_true.mp ha s hs)) hl)
    rw [decide_eq_true h, Bool.true_and]
    exact f
  · rw [decide_eq_false h, Bool.false_and]
    exact lit_frame1 (lie_ok he) rfl (by rw [List.length_map]; omega)
/-! what is a trick, of any steps -/
theorem is_step_b (s : Stp) : M_is_step [.val s.d] = .ok (.val (.bl s.okb)) [.val s.d] := by
  cases s with
  | add t w =>
    have it := is_thing_ok w
    by_cases h1 : -9 ≤ t ∧ t ≤ 9
    · by_cases h2 : t = 0
      · simp [M_is_step, B_is_step, Stp.d, Stp.okb, eqD_str, eqD_int, neD_int, is_int_ok, h2]
      · simp [M_is_step, B_is_step, Stp.d, Stp.okb, eqD_str, eqD_int, neD_int, is_int_ok, h1, h2, it]
    · have e1 : decide (-9 ≤ t ∧ t ≤ 9) = false := decide_eq_false h1
      have e3 : decide (-9 ≤ t ∧ t ≤ 9 ∧ t ≠ 0) = false := decide_eq_false fun z => h1 ⟨z.1, z.2.1⟩
      have iw := is_int_ok (i := t) (a := -9) (b := 9)
      rw [e1] at iw
      simp only [Stp.okb, e3]
      simp [M_is_step, B_is_step, Stp.d, eqD_str, eqD_int, neD_int, iw]
  | times k =>
    have iw := is_int_ok (i := k) (a := 2) (b := 12)
    simp only [Stp.okb]
    generalize decide (2 ≤ k ∧ k ≤ 12) = c at *
    simp [M_is_step, B_is_step, Stp.d, eqD_str, eqD_int, iw, in_ts1, ne4]
  | share k =>
    have iw := is_int_ok (i := k) (a := 2) (b := 12)
    simp only [Stp.okb]
    generalize decide (2 ≤ k ∧ k ≤ 12) = c at *
    simp [M_is_step, B_is_step, Stp.d, eqD_str, eqD_int, iw, in_ts2, ne3]
theorem isb_frame1 {S E : D} (hE : M_is_end [.val E] = .ok (.val (.bl true)) [.val E]) {l : List D} (hS : S = .tup l) (h : (8 : Int) < l.length) :
    M_is_trick [.val (.tup [S, E])] = .ok (.val (.bl false)) [.val (.tup [S, E])] := by
  subst hS
  simp [M_is_trick, B_is_trick, neD_int, hE, h]
theorem isb_test {A : Cell} {d : D} {r : Bool} (h : M_is_step [.val d] = .ok (.val (.bl r)) [.val d]) : callF M_is_step (consA (vE 1) nilA) [A, .val d] = .ok (.val (.bl r)) [A, .val d] := by
  simp [h]
theorem isb_frame {E : D} {l K : List D} {n : Bool} {p : Int} (hE : M_is_end [.val E] = .ok (.val (.bl true)) [.val E]) (h : ¬ (8 : Int) < l.length)
    (lc : lcL (gN 1) (okT true) (callF M_is_step (consA (vE 1) nilA)) [1] l [] [.val (.tup [.tup l, E]), .un] = .ok K [.val (.tup [.tup l, E]), .un]) (ha : allD [.lst K] = vB n) (hp : n = true → M_shared_by [.val (.tup l)] = .ok (.val (.int p)) [.val (.tup l)]) :
    M_is_trick [.val (.tup [.tup l, E])] = .ok (.val (.bl (n && decide (p ≤ 36)))) [.val (.tup [.tup l, E])] := by
  cases n with
  | false => simp [M_is_trick, B_is_trick, neD_int, hE, h, lc, ha]
  | true => simp [M_is_trick, B_is_trick, neD_int, hE, h, lc, ha, hp rfl]
theorem is_trick_b {ss : List Stp} {en : En} (he : en.ok) (hl : ss.length ≤ 60) : M_is_trick [.val (trk ss en)] = .ok (.val (.bl (okTb ss))) [.val (trk ss en)] := by
  unfold okTb
  by_cases h : ss.length ≤ 8
  · have lc := lc_al (g := Stp.d) (gt := gN 1) (ct := okT true) (f := callF M_is_step (consA (vE 1) nilA)) (vs := [1]) (ρ := [.val (trk ss en), .un]) (h := fun s => .bl s.okb) (c := fun _ => true) (fun s => [.val (trk ss en), .val s.d]) ss [] (fun s _ => ⟨rfl, rfl, fun _ => isb_test (is_step_b s), rfl⟩) (by show 0 + _ ≤ _; omega)
    rw [List.filter_eq_self.mpr (fun _ _ => rfl), List.nil_append] at lc
    have al := all_bls (l := ss.map Stp.okb)
    rw [List.map_map, List.all_map] at al
    have f := isb_frame (E := en.d) (l := ss.map Stp.d) (n := ss.all Stp.okb) (p := shp ss) (is_end_ok he) (by rw [List.length_map]; omega) lc al (fun ha => shared_ok (fun s hs => okb_iff.mp (List.all_eq_true.mp ha s hs)) hl)
    rw [decide_eq_true h, Bool.true_and]
    exact f
  · rw [decide_eq_false h, Bool.false_and]
    exact isb_frame1 (is_end_ok he) rfl (by rw [List.length_map]; omega)
/-! texts by their signs -/
def Asc (x : Str) : Prop := ∀ c ∈ x.cps.toList, c < 128
theorem S_of (x : Str) : SX.S x.cps.toList = x := SX.S_tl x
theorem asc_ok {x : Str} (h : Asc x) : PyData.strOk x = true := by
  unfold PyData.strOk
  rw [← Array.all_toList, List.all_eq_true]
  intro c hc
  have := h c hc
  simp
  omega
theorem asc_S {l : List Nat} (h : ∀ c ∈ l, c < 128) : Asc (SX.S l) := h
theorem len_S {l : List Nat} : (SX.S l).length = l.length := by
  show l.toArray.size = _
  simp
theorem len_tl (x : Str) : x.length = x.cps.toList.length := by
  show x.cps.size = _
  simp
theorem cutS_to {x : Str} {k : Nat} : cutS x none (some (k : Int)) = SX.S (x.cps.toList.take k) := by
  unfold cutS
  rw [sIx_nn]
  simp only [HT.sIx, List.drop_zero, Nat.sub_zero]
  rw [List.take_eq_take_iff.mpr (show min (min k x.length) x.cps.toList.length = min k x.cps.toList.length by rw [len_tl]; omega)]
theorem cutS_from {x : Str} {k : Nat} : cutS x (some (k : Int)) none = SX.S (x.cps.toList.drop k) := by
  unfold cutS
  rw [sIx_nn]
  simp only [HT.sIx]
  congr 1
  congr 1
  rw [len_tl]
  by_cases h : k ≤ x.cps.toList.length
  · rw [Nat.min_eq_left h, List.take_of_length_le (by simp)]
  · rw [Nat.min_eq_right (by omega), List.drop_of_length_le (Nat.le_refl _), List.drop_of_length_le (show x.cps.toList.length ≤ k by omega)]
    simp
theorem sl_to {x : Str} {k : Nat} (h : x.length ≤ 1000000) : slD (.str x) none (some (k : Int)) = some (.val (.str (SX.S (x.cps.toList.take k)))) := by
  show (if x.length ≤ sizeLine then some (Wv.val (.str (cutS x none (some (k : Int))))) else none) = _
  rw [if_pos (by rw [x_size]; omega), cutS_to]
theorem sl_from {x : Str} {k : Nat} (h : x.length ≤ 1000000) : slD (.str x) (some (k : Int)) none = some (.val (.str (SX.S (x.cps.toList.drop k)))) := by
  show (if x.length ≤ sizeLine then some (Wv.val (.str (cutS x (some (k : Int)) none))) else none) = _
  rw [if_pos (by rw [x_size]; omega), cutS_from]
theorem S_inj {a b : List Nat} : SX.S a = SX.S b ↔ a = b := by
  constructor
  · intro h
    have := congrArg (fun x : Str => x.cps.toList) h
    simpa using this
  · rintro rfl; rfl
/-! a word's item -/
def plainW : List Nat → List Nat
  | 45 :: r => r
  | l => l
def digB (c : Nat) : Bool := decide (48 ≤ c) && decide (c ≤ 57)
def goodW (p : List Nat) : Bool := decide (1 ≤ p.length ∧ p.length ≤ 2) && p.all digB
def itemD (x : Str) : D := if goodW (plainW x.cps.toList) then (if plainW x.cps.toList = x.cps.toList then .int (NumText.digitsVal (plainW x.cps.toList) : Nat) else .int (-(NumText.digitsVal (plainW x.cps.toList) : Nat))) else .str x
theorem hyphen {x : Str} : (SX.S (x.cps.toList.take 1) = ("-" : Str)) ↔ ∃ r, x.cps.toList = 45 :: r := by
  rw [show ("-" : Str) = SX.S [45] from rfl, S_inj]
  cases e : x.cps.toList with
  | nil => simp
  | cons c r =>
    simp
theorem sub1 {x : Str} (h : x.length ≤ 1000000) {P : D} (hP : P = .str (SX.S (plainW x.cps.toList))) {c : Cell} {r : Rho} : (ifE (valT (binE eqD (slE (vE 0) (noO) (intO (cE (.int 1)))) (cE (.str "-")))) (slE (vE 0) (intO (cE (.int 1))) (noO)) (vE 0)) (.val (.str x) :: c :: r) = .ok (.val P) (.val (.str x) :: c :: r) := by
  subst hP
  have e1 := sl_to (k := 1) h
  have e2 := sl_from (k := 1) h
  rw [show ((1 : Nat) : Int) = 1 from rfl] at e1 e2
  by_cases hy : SX.S (x.cps.toList.take 1) = ("-" : Str)
  · obtain ⟨q, eq⟩ := hyphen.mp hy
    have ep : SX.S (plainW x.cps.toList) = SX.S (x.cps.toList.drop 1) := by rw [eq]; rfl
    rw [ep]
    generalize SX.S (x.cps.toList.drop 1) = P at *
    generalize SX.S (x.cps.toList.take 1) = Q at *
    simp [e1, e2, eqD_str, hy]
  · have ep : SX.S (plainW x.cps.toList) = x := by
      have : plainW x.cps.toList = x.cps.toList := by
        unfold plainW
        split
        · rename_i r eq
          exact absurd (hyphen.mpr ⟨_, eq⟩) hy
        · rfl
      rw [this, S_of]
    rw [ep]
    generalize SX.S (x.cps.toList.take 1) = Q at *
    simp [e1, eqD_str, hy]
theorem digs : ("0123456789" : Str).cps.toList = [48, 49, 50, 51, 52, 53, 54, 55, 56, 57] := rfl
theorem dig_mem {c : Nat} : decide (c ∈ ("0123456789" : Str).cps.toList) = digB c := by
  rw [digs, Bool.eq_iff_iff]
  unfold digB
  simp
  omega
theorem inS_dig {c : Nat} : inS false (.str ⟨#[c]⟩) (.str "0123456789") = vB (digB c) := by
  rw [← dig_mem]
  rfl
theorem ninS_dig {c : Nat} : inS true (.str ⟨#[c]⟩) (.str "0123456789") = vB (!digB c) := by
  rw [← dig_mem]
  rfl
theorem walk_S {p : List Nat} : D.walk (.str (SX.S p)) = some (p.map fun c => .str ⟨#[c]⟩) := rfl
theorem lenD_S {p : List Nat} (h : p.length ≤ 1000000) : lenD [.str (SX.S p)] = vI p.length := by
  show (if (SX.S p).length ≤ sizeLine then vI ((SX.S p).length : Int) else none) = _
  rw [len_S, if_pos (by rw [x_size]; omega)]
theorem int_good {p : List Nat} (h : goodW p = true) : intD [.str (SX.S p)] = vI (NumText.digitsVal p : Nat) := by
  unfold goodW at h
  simp only [Bool.and_eq_true, decide_eq_true_eq] at h
  obtain ⟨⟨h1, h2⟩, h3⟩ := h
  have e := SX.int_S (a := p) h3 (by intro z; rw [z] at h1; simp at h1) (by omega)
  show (if (SX.S p).length ≤ 640 then (PySem.intText? (SX.S p)).map fun n => Wv.val (.int n) else none) = _
  rw [len_S, if_pos (by omega), e]
  rfl
theorem good_val {p : List Nat} (h : goodW p = true) : NumText.digitsVal p ≤ 99 := by
  unfold goodW at h
  simp only [Bool.and_eq_true, decide_eq_true_eq] at h
  obtain ⟨⟨h1, h2⟩, h3⟩ := h
  match p, h1, h2, h3 with
  | [a], _, _, h3 =>
    simp [digB] at h3
    simp [NumText.digitsVal]
    omega
  | [a, b], _, _, h3 =>
    simp [digB] at h3
    simp [NumText.digitsVal]
    omega
theorem plain_len {x : Str} : (plainW x.cps.toList).length ≤ x.length := by
  rw [len_tl]
  unfold plainW
  split
  · rename_i h; rw [h]; simp
  · exact Nat.le_refl _
theorem ii_frame {x : Str} {p : List Nat} {K : List D} {n : Bool} {i : Int} (s1 : (ifE (valT (binE eqD (slE (vE 0) (noO) (intO (cE (.int 1)))) (cE (.str "-")))) (slE (vE 0) (intO (cE (.int 1))) (noO)) (vE 0)) [.val (.str x), .un, .un] = .ok (.val (.str (SX.S p))) [.val (.str x), .un, .un])
    (hl : lenD [.str (SX.S p)] = vI p.length) (lc : lcL (gN 2) (okT true) (binE (inS false) (vE 2) (cE (.str "0123456789"))) [2] (p.map fun c => .str ⟨#[c]⟩) [] [.val (.str x), .val (.str (SX.S p)), .un] = .ok K [.val (.str x), .val (.str (SX.S p)), .un]) (ha : allD [.lst K] = vB n)
    (hg : (decide (1 ≤ p.length ∧ p.length ≤ 2) && n) = true → intD [.str (SX.S p)] = vI i) :
    M_item_in [.val (.str x)] = .ok (.val (if (decide (1 ≤ p.length ∧ p.length ≤ 2) && n) then (if SX.S p = x then .int i else .int (-i)) else .str x)) [.val (.str x)] := by
  have F1 := setF_val (i := 1) s1 rfl
  have w := walk_S (p := p)
  generalize (p.map fun c => D.str ⟨#[c]⟩) = W at *
  generalize SX.S p = P at *
  generalize p.length = L at *
  have F2 : ifS (andT (valT (chainE leD leD (cE (.int 1)) (bltE lenD (consA (vE 1) (nilA))) (cE (.int 2)))) (valT (bltE allD (consA (lcE (seqI (vE 1)) (gN 2) (okT true) (binE (inS false) (vE 2) (cE (.str "0123456789"))) [2]) (nilA))))) (retS (ifE (valT (binE eqD (vE 1) (vE 0))) (bltE intD (consA (vE 1) (nilA))) (binE subD (cE (.int 0)) (bltE intD (consA (vE 1) (nilA)))))) (nxS) [.val (.str x), .val (.str P), .un] = if (decide (1 ≤ L ∧ L ≤ 2) && n) then .rt (.val (if P = x then .int i else .int (-i))) [.val (.str x), .val (.str P), .un] else .nx [.val (.str x), .val (.str P), .un] := by
    by_cases h1 : 1 ≤ L
    · by_cases h2 : L ≤ 2
      · have h1' : (1 : Int) ≤ L := by omega
        have h2' : (L : Int) ≤ 2 := by omega
        cases n with
        | false => simp [hl, h1, h2, h1', h2', w, lc, ha]
        | true =>
          have hi := hg (by simp [h1, h2])
          by_cases hp : P = x
          · subst hp
            simp [hl, h1, h2, h1', h2', w, lc, ha, eqD_str, hi]
          · simp [hl, h1, h2, h1', h2', w, lc, ha, eqD_str, hp, hi]
      · have h1' : (1 : Int) ≤ L := by omega
        have h2' : ¬ (L : Int) ≤ 2 := by omega
        simp [hl, h1, h2, h1', h2']
    · have h1' : ¬ (1 : Int) ≤ L := by omega
      simp [hl, h1, h1']
  unfold M_item_in
  have all : B_item_in [.val (.str x), .un, .un] = .rt (.val (if (decide (1 ≤ L ∧ L ≤ 2) && n) then (if P = x then .int i else .int (-i)) else .str x)) [.val (.str x), .val (.str P), .un] := by
    unfold B_item_in
    refine (seq_nx F1).trans ?_
    cases hb : (decide (1 ≤ L ∧ L ≤ 2) && n) with
    | true =>
      rw [hb] at F2
      rw [if_pos rfl] at F2 ⊢
      exact seq_rt F2
    | false =>
      rw [hb] at F2
      rw [if_neg (by decide)] at F2 ⊢
      exact (seq_nx F2).trans rfl
  simp [all]
theorem item_in_ok {x : Str} (h : x.length ≤ 1000000) : M_item_in [.val (.str x)] = .ok (.val (itemD x)) [.val (.str x)] := by
  have pl := plain_len (x := x)
  have lc := lc_al (g := fun c => D.str ⟨#[c]⟩) (gt := gN 2) (ct := okT true) (f := binE (inS false) (vE 2) (cE (.str "0123456789"))) (vs := [2]) (ρ := [.val (.str x), .val (.str (SX.S (plainW x.cps.toList))), .un]) (h := fun c => .bl (digB c)) (c := fun _ => true) (fun c => [.val (.str x), .val (.str (SX.S (plainW x.cps.toList))), .val (.str ⟨#[c]⟩)]) (plainW x.cps.toList) [] (fun c _ => ⟨rfl, rfl, fun _ => bin_v (d1 := .str ⟨#[c]⟩) (d2 := .str "0123456789") (w1 := .val (.str ⟨#[c]⟩)) (w2 := .val (.str "0123456789")) rfl rfl rfl rfl inS_dig, rfl⟩) (by show 0 + _ ≤ _; omega)
  rw [List.filter_eq_self.mpr (fun _ _ => rfl), List.nil_append] at lc
  have al := all_bls (l := (plainW x.cps.toList).map digB)
  rw [List.map_map, List.all_map] at al
  have f := ii_frame (i := (NumText.digitsVal (plainW x.cps.toList) : Nat)) (sub1 h rfl) (lenD_S (by omega)) lc al (fun hg => int_good hg)
  rw [f]
  unfold itemD
  have e : (SX.S (plainW x.cps.toList) = x) = (plainW x.cps.toList = x.cps.toList) := by
    apply propext
    constructor
    · intro z
      have := congrArg (fun y : Str => y.cps.toList) z
      simpa using this
    · intro z
      rw [z, S_of]
  simp only [e]
  rfl
theorem one_okd {p : List Nat} (h : ∀ c ∈ p, c < 128) : (D.lst (p.map fun c => .str ⟨#[c]⟩)).ok 40 = true := by
  rw [ok_lst, okL_all]
  intro d hd
  obtain ⟨c, hc, rfl⟩ := List.mem_map.mp hd
  show PyData.strOk _ = true
  exact asc_ok (x := SX.S [c]) fun e he => by
    have : e = c := by simpa using he
    rw [this]
    exact h c hc
theorem eq_nilD {α : Type} {g : α → D} {l : List α} (h : (D.lst (l.map g)).ok 40 = true) : eqD (.lst (l.map g)) (.lst []) = vB (decide (l = [])) := by
  have k0 : (D.lst []).ok 40 = true := rfl
  rw [eqD_of h k0]
  cases l with
  | nil => rfl
  | cons a l =>
    rw [List.map_cons, eqv_lst, eqvAll_cn]
    rfl
theorem ne_nilD {α : Type} {g : α → D} {l : List α} (h : (D.lst (l.map g)).ok 40 = true) : neD (.lst (l.map g)) (.lst []) = vB (!decide (l = [])) := by
  have k0 : (D.lst []).ok 40 = true := rfl
  rw [neD_of h k0]
  cases l with
  | nil => rfl
  | cons a l =>
    rw [List.map_cons, eqv_lst, eqvAll_cn]
    rfl
theorem li_frame {x : Str} {p : List Nat} {K : List D} {n : Bool} {i : Int} (s1 : (ifE (valT (binE eqD (slE (vE 0) (noO) (intO (cE (.int 1)))) (cE (.str "-")))) (slE (vE 0) (intO (cE (.int 1))) (noO)) (vE 0)) [.val (.str x), .un, .un, .un] = .ok (.val (.str (SX.S p))) [.val (.str x), .un, .un, .un])
    (hl : lenD [.str (SX.S p)] = vI p.length) (lc : lcL (gN 3) (valT (binE (inS true) (vE 3) (cE (.str "0123456789")))) (vE 3) [3] (p.map fun c => .str ⟨#[c]⟩) [] [.val (.str x), .val (.str (SX.S p)), .un, .un] = .ok K [.val (.str x), .val (.str (SX.S p)), .un, .un]) (ha : eqD (.lst K) (.lst []) = vB n)
    (hg : (decide (1 ≤ p.length ∧ p.length ≤ 2) && n) = true → intD [.str (SX.S p)] = vI i) (hi : i.natAbs ≤ 99) :
    M__law_item [.val (.str x)] = .ok (.val (if (decide (1 ≤ p.length ∧ p.length ≤ 2) && n) then (if SX.S p = x then .int i else .int (-i)) else .str x)) [.val (.str x)] := by
  have F1 := setF_val (i := 1) s1 rfl
  have w := walk_S (p := p)
  generalize (p.map fun c => D.str ⟨#[c]⟩) = W at *
  generalize SX.S p = P at *
  generalize p.length = L at *
  have F2 : setF 2 (andE (chainE ltD ltD (cE (.int 0)) (bltE lenD (consA (vE 1) (nilA))) (cE (.int 3))) (binE eqD (lcE (seqI (vE 1)) (gN 3) (valT (binE (inS true) (vE 3) (cE (.str "0123456789")))) (vE 3) [3]) (lstE (nilA)))) [.val (.str x), .val (.str P), .un, .un] = .nx [.val (.str x), .val (.str P), .val (.bl (decide (1 ≤ L ∧ L ≤ 2) && n)), .un] := by
    by_cases h1 : 1 ≤ L
    · by_cases h2 : L ≤ 2
      · have h1' : (0 : Int) < L := by omega
        have h1'' : 0 < L := by omega
        have h2' : (L : Int) < 3 := by omega
        have h2'' : L < 3 := by omega
        simp [hl, h1, h2, h1', h2', h1'', h2'', w, lc, ha]
      · have h1' : (0 : Int) < L := by omega
        have h1'' : 0 < L := by omega
        have h2' : ¬ (L : Int) < 3 := by omega
        have h2'' : ¬ L < 3 := by omega
        simp [hl, h1, h2, h1', h2', h1'', h2'']
    · have h1' : ¬ (0 : Int) < L := by omega
      have h1'' : ¬ 0 < L := by omega
      simp [hl, h1, h1', h1'']
  have m1 : mulD (.int i) (.int 1) = vI (i * 1) := mulN (by
    have : i.natAbs.log2 < 10 := log2_lt (by decide) (by omega)
    have e : (1 : Int).natAbs.log2 = 0 := by decide
    omega)
  have m2 : mulD (.int i) (.int (-1)) = vI (i * (-1)) := mulN (by
    have : i.natAbs.log2 < 10 := log2_lt (by decide) (by omega)
    have e : (-1 : Int).natAbs.log2 = 0 := by decide
    omega)
  have all : ∃ c3, B__law_item [.val (.str x), .un, .un, .un] = .rt (.val (if (decide (1 ≤ L ∧ L ≤ 2) && n) then (if P = x then .int i else .int (-i)) else .str x)) [.val (.str x), .val (.str P), .val (.bl (decide (1 ≤ L ∧ L ≤ 2) && n)), c3] := by
    refine ⟨.un, ?_⟩
    unfold B__law_item
    refine (seq_nx F1).trans ?_
    refine (seq_nx F2).trans ?_
    cases hb : (decide (1 ≤ L ∧ L ≤ 2) && n) with
    | true =>
      have hi := hg hb
      by_cases hp : P = x
      · subst hp
        simp [hi, neD_str, m1]
      · simp [hi, neD_str, hp, m2]
    | false => simp
  obtain ⟨c3, all⟩ := all
  unfold M__law_item
  simp [all]
theorem law_item_ok {x : Str} (hx : Asc x) (h : x.length ≤ 1000000) : M__law_item [.val (.str x)] = .ok (.val (itemD x)) [.val (.str x)] := by
  have pl := plain_len (x := x)
  have pa : ∀ c ∈ plainW x.cps.toList, c < 128 := fun c hc => by
    unfold plainW at hc
    split at hc
    · rename_i r e
      exact hx c (by rw [e]; exact List.mem_cons_of_mem _ hc)
    · exact hx c hc
  have lc := lc_al (g := fun c => D.str ⟨#[c]⟩) (gt := gN 3) (ct := valT (binE (inS true) (vE 3) (cE (.str "0123456789")))) (f := vE 3) (vs := [3]) (ρ := [.val (.str x), .val (.str (SX.S (plainW x.cps.toList))), .un, .un]) (h := fun c => .str ⟨#[c]⟩) (c := fun c => !digB c) (fun c => [.val (.str x), .val (.str (SX.S (plainW x.cps.toList))), .un, .val (.str ⟨#[c]⟩)]) (plainW x.cps.toList) [] (fun c _ => ⟨rfl, by
    have := bin_v (s := inS true) (f := vE 3) (h := cE (.str "0123456789")) (ρ := [.val (.str x), .val (.str (SX.S (plainW x.cps.toList))), .un, .val (.str ⟨#[c]⟩)]) (d1 := .str ⟨#[c]⟩) (d2 := .str "0123456789") (w1 := .val (.str ⟨#[c]⟩)) (w2 := .val (.str "0123456789")) rfl rfl rfl rfl ninS_dig
    rw [x_valT, this], fun _ => rfl, rfl⟩) (by show 0 + _ ≤ _; omega)
  rw [List.nil_append] at lc
  have ea : eqD (.lst (((plainW x.cps.toList).filter fun c => !digB c).map fun c => .str ⟨#[c]⟩)) (.lst []) = vB ((plainW x.cps.toList).all digB) := by
    rw [eq_nilD (one_okd fun c hc => pa c ((List.mem_filter.mp hc).1))]
    have := nil_filter (f := fun c : Nat => !digB c) (l := plainW x.cps.toList)
    simp only [Bool.not_not] at this
    rw [this]
  have f : M__law_item [.val (.str x)] = .ok (.val (if goodW (plainW x.cps.toList) then (if SX.S (plainW x.cps.toList) = x then .int (NumText.digitsVal (plainW x.cps.toList) : Nat) else .int (-(NumText.digitsVal (plainW x.cps.toList) : Nat))) else .str x)) [.val (.str x)] := by
    by_cases hg : goodW (plainW x.cps.toList) = true
    · exact li_frame (i := (NumText.digitsVal (plainW x.cps.toList) : Nat)) (sub1 h rfl) (lenD_S (by omega)) lc ea (fun hg => int_good hg) (by have := good_val hg; omega)
    · have hb : goodW (plainW x.cps.toList) = false := by simpa using hg
      have f := li_frame (i := 0) (sub1 h rfl) (lenD_S (by omega)) lc ea (fun z => absurd z hg) (by decide)
      have hb' : (decide (1 ≤ (plainW x.cps.toList).length ∧ (plainW x.cps.toList).length ≤ 2) && (plainW x.cps.toList).all digB) = false := hb
      rw [hb'] at f
      rw [hb, f]
      rfl
  rw [f]
  unfold itemD
  have e : (SX.S (plainW x.cps.toList) = x) = (plainW x.cps.toList = x.cps.toList) := by
    apply propext
    constructor
    · intro z
      have := congrArg (fun y : Str => y.cps.toList) z
      simpa using this
    · intro z
      rw [z, S_of]
  simp only [e]
/-! a text split at one sign -/
theorem spl_sub {c : Nat} : ∀ (l acc : List Nat) (p : List Nat), p ∈ TL.spl [c] 0 acc l → (∀ a ∈ p, a ∈ acc ∨ a ∈ l) ∧ p.length ≤ acc.length + l.length
  | [], acc, p, h => by
    rw [TL.spl_nil] at h
    have : p = acc := List.mem_singleton.mp h
    subst this
    exact ⟨fun a ha => .inl ha, by simp⟩
  | b :: r, acc, p, h => by
    cases e : TL.pre [c] (b :: r) with
    | true =>
      rw [TL.spl_hit e] at h
      rcases List.mem_cons.mp h with rfl | h
      · exact ⟨fun a ha => .inl ha, by simp⟩
      · obtain ⟨h1, h2⟩ := spl_sub r [] p h
        refine ⟨fun a ha => ?_, by simp at h2 ⊢; omega⟩
        rcases h1 a ha with h | h
        · cases h
        · exact .inr (List.mem_cons_of_mem _ h)
    | false =>
      rw [TL.spl_miss e] at h
      obtain ⟨h1, h2⟩ := spl_sub r (acc ++ [b]) p h
      refine ⟨fun a ha => ?_, by simp at h2 ⊢; omega⟩
      rcases h1 a ha with h | h
      · rcases List.mem_append.mp h with h | h
        · exact .inl h
        · exact .inr (by rw [List.mem_singleton.mp h]; exact List.mem_cons_self ..)
      · exact .inr (List.mem_cons_of_mem _ h)
theorem spl_len {c : Nat} : ∀ (l acc : List Nat), (TL.spl [c] 0 acc l).length ≤ l.length + 1 ∧ TL.spl [c] 0 acc l ≠ []
  | [], acc => by rw [TL.spl_nil]; simp
  | b :: r, acc => by
    cases e : TL.pre [c] (b :: r) with
    | true =>
      rw [TL.spl_hit e]
      have := (spl_len (c := c) r []).1
      simp only [List.length_cons, List.length_nil] at this ⊢
      exact ⟨by simpa using this, by simp⟩
    | false =>
      rw [TL.spl_miss e]
      have := spl_len (c := c) r (acc ++ [b])
      simp only [List.length_cons] at this ⊢
      exact ⟨by omega, this.2⟩
theorem spl_sum {c : Nat} : ∀ (l acc : List Nat), ((TL.spl [c] 0 acc l).map List.length).sum + (TL.spl [c] 0 acc l).length = acc.length + l.length + 1
  | [], acc => by rw [TL.spl_nil]; simp
  | b :: r, acc => by
    cases e : TL.pre [c] (b :: r) with
    | true =>
      rw [TL.spl_hit e]
      have := spl_sum (c := c) r []
      simp only [List.length_cons, List.length_nil, List.map_cons, List.sum_cons, Nat.sub_self] at this ⊢
      omega
    | false =>
      rw [TL.spl_miss e]
      have := spl_sum (c := c) r (acc ++ [b])
      simp at this ⊢
      omega
def cutAt (c : Nat) (x : Str) : List Str := (TL.spl [c] 0 [] x.cps.toList).map SX.S
theorem split_at {c : Nat} (hc : c < 256) {x : Str} : Txt.split x (SX.S [c]) = cutAt c x := by
  have := SX.split_S (a := x.cps.toList) (b := [c]) (by simp) (by simp [hc])
  rw [S_of] at this
  exact this
theorem splitD_at {c : Nat} (hc : c < 256) {x : Str} (h : x.length ≤ 1000000) : splitD (.str x) (.str (SX.S [c])) = some (.new (.lst ((cutAt c x).map .str))) := by
  show (if ((SX.S [c]).length == 0) = false ∧ x.length + 2 ≤ sizeLine then some (Wv.new (.lst ((Txt.split x (SX.S [c])).map .str))) else none) = _
  rw [if_pos ⟨by rw [len_S]; rfl, by rw [x_size]; omega⟩, split_at hc]
theorem sp_S : (" " : Str) = SX.S [32] := rfl
theorem nl_S : ("\n" : Str) = SX.S [10] := rfl
theorem split_sp {x : Str} (h : x.length ≤ 1000000) : splitD (.str x) (.str " ") = some (.new (.lst ((cutAt 32 x).map .str))) := splitD_at (by decide) h
theorem split_nl {x : Str} (h : x.length ≤ 1000000) : splitD (.str x) (.str "\n") = some (.new (.lst ((cutAt 10 x).map .str))) := splitD_at (by decide) h
structure Cuts (x : Str) (l : List Str) : Prop where
  ne : l ≠ []
  len : l.length ≤ x.length + 1
  part : ∀ p ∈ l, p.length ≤ x.length ∧ (Asc x → Asc p)
  sum : (l.map (·.length)).sum + l.length = x.length + 1
theorem cuts_at {c : Nat} {x : Str} : Cuts x (cutAt c x) := by
  have h := spl_len (c := c) x.cps.toList []
  refine ⟨by simpa [cutAt] using h.2, by rw [len_tl]; simpa [cutAt] using h.1, fun p hp => ?_, ?_⟩
  · obtain ⟨q, hq, rfl⟩ := List.mem_map.mp hp
    obtain ⟨h1, h2⟩ := spl_sub _ _ _ hq
    refine ⟨by rw [len_S, len_tl]; simpa using h2, fun ha => asc_S fun a hh => ?_⟩
    rcases h1 a hh with z | z
    · cases z
    · exact ha a z
  · have := spl_sum (c := c) x.cps.toList []
    rw [len_tl]
    unfold cutAt
    rw [List.map_map, List.length_map]
    have e : (fun p : Str => p.length) ∘ SX.S = List.length := by
      funext p
      exact len_S
    rw [e]
    simpa using this
/-! lines as rows of items -/
def itemsOf (x : Str) : List D := (cutAt 32 x).map itemD
/-- a sign or a number -/
def Itm (d : D) : Prop := (∃ i : Int, d = .int i ∧ i.natAbs ≤ 99) ∨ ∃ x : Str, d = .str x ∧ PyData.strOk x = true
theorem itm_ok {d : D} (h : Itm d) {n : Nat} : d.ok n = true := by
  rcases h with ⟨i, rfl, _⟩ | ⟨x, rfl, h⟩
  · cases n <;> rfl
  · cases n <;> exact h
theorem itemD_itm {x : Str} (h : Asc x) : Itm (itemD x) := by
  unfold itemD
  by_cases hg : goodW (plainW x.cps.toList) = true
  · have := good_val hg
    rw [if_pos hg]
    split
    · exact .inl ⟨_, rfl, by omega⟩
    · exact .inl ⟨_, rfl, by omega⟩
  · rw [if_neg hg]
    exact .inr ⟨_, rfl, asc_ok h⟩
structure Row (r : List D) : Prop where
  ne : r ≠ []
  it : ∀ d ∈ r, Itm d
theorem row_of {x : Str} (h : Asc x) : Row (itemsOf x) := by
  have k := cuts_at (c := 32) (x := x)
  refine ⟨by unfold itemsOf; simpa using k.ne, fun d hd => ?_⟩
  obtain ⟨p, hp, rfl⟩ := List.mem_map.mp hd
  exact itemD_itm ((k.part p hp).2 h)
theorem row_ok {r : List D} (h : Row r) {n : Nat} : (D.tup r).ok (n + 1) = true := by
  rw [ok_tup, okL_all]
  exact fun d hd => itm_ok (h.it d hd)
theorem item_call {x A : Str} (h : x.length ≤ 1000000) : callF M_item_in (consA (vE 1) (nilA)) [.val (.str A), .val (.str x)] = .ok (.val (itemD x)) [.val (.str A), .val (.str x)] := by
  simp [item_in_ok h]
theorem items_in_S {x : Str} (h : x.length ≤ 1000000) : M_items_in [.val (.str x)] = .ok (.val (.tup (itemsOf x))) [.val (.str x)] := by
  have k := cuts_at (c := 32) (x := x)
  have sp := split_sp h
  have lc := lc_al (g := D.str) (gt := gN 1) (ct := okT true) (f := callF M_item_in (consA (vE 1) (nilA))) (vs := [1]) (ρ := [.val (.str x), .un]) (h := itemD) (c := fun _ => true) (fun p => [.val (.str x), .val (.str p)]) (cutAt 32 x) [] (fun p hp => ⟨rfl, rfl, fun _ => item_call (by have := (k.part p hp).1; omega), rfl⟩) (by have := k.len; show 0 + _ ≤ _; omega)
  rw [List.filter_eq_self.mpr (fun _ _ => rfl), List.nil_append] at lc
  have tp : tupleD [.lst ((cutAt 32 x).map itemD)] = some (.val (.tup ((cutAt 32 x).map itemD))) := rfl
  unfold itemsOf
  generalize (cutAt 32 x).map itemD = R at *
  generalize (cutAt 32 x).map D.str = L at *
  simp [M_items_in, B_items_in, mthE, sp, lc, tp]
theorem rows_call {L : List D} {x : Str} (h : x.length ≤ 1000000) : callF M_items_in (consA (vE 2) (nilA)) [.val (.lst L), .un, .val (.str x)] = .ok (.val (.tup (itemsOf x))) [.val (.lst L), .un, .val (.str x)] := by
  simp [items_in_S h]
/-- what the program's trick_in makes of the rows -/
def lastE (r : List D) : Bool := match r with
  | .str a :: _ => decide (a = "rest") || decide (a = "root")
  | _ => false
theorem in_rr {a : Str} : inD false (.str a) (.tup [.str "rest", .str "root"]) = vB (decide (a = "rest") || decide (a = "root")) := by
  show vB (D.eqv (.str "rest") (.str a) || (D.eqv (.str "root") (.str a) || false)) = _
  have e : ∀ b : Str, D.eqv (.str b) (.str a) = decide (a = b) := fun b => by
    simp only [D.eqv, D.py, PyData.eqv]
    rw [Bool.eq_iff_iff]
    simp
    exact eq_comm
  rw [e, e, Bool.or_false]
theorem in_rrI {i : Int} : inD false (.int i) (.tup [.str "rest", .str "root"]) = vB false := rfl
theorem ti_last {L R : List D} {r : List D} (hr : Row r) (hl : atI R (-1) = some (.tup r)) : binE (inD false) (binE ixD (binE ixD (vE 1) (unE negD (cE (.int 1)))) (cE (.int 0))) (tupE (consA (cE (.str "rest")) (consA (cE (.str "root")) (nilA)))) [.val (.lst L), .val (.lst R), .un] = .ok (.val (.bl (lastE r))) [.val (.lst L), .val (.lst R), .un] := by
  cases r with
  | nil => exact absurd rfl hr.ne
  | cons d q =>
    rcases hr.it d (List.mem_cons_self ..) with ⟨i, rfl, _⟩ | ⟨a, rfl, _⟩
    · simp [hl, in_rrI, lastE]
    · simp [hl, in_rr, lastE]
theorem andT_ok {a b : Tv} {ρ ρ' ρ'' : Rho} {c : Bool} (h1 : a ρ = .ok true ρ') (h2 : b ρ' = .ok c ρ'') : andT a b ρ = .ok (true && c) ρ'' := by
  simp [h1, h2]
theorem andT_no {a b : Tv} {ρ ρ' : Rho} (h1 : a ρ = .ok false ρ') : andT a b ρ = .ok false ρ' := by
  simp [h1]
theorem ti_frame {L R : List D} (F1 : setF 1 (lcE (seqI (slE (vE 0) (intO (cE (.int 1))) (noO))) (gN 2) (okT true) (callF M_items_in (consA (vE 2) (nilA))) [2]) [.val (.lst L), .un, .un] = .nx [.val (.lst L), .val (.lst R), .un]) {n c : Bool} (hn : neD (.lst R) (.lst []) = vB n)
    (hc : n = true → binE (inD false) (binE ixD (binE ixD (vE 1) (unE negD (cE (.int 1)))) (cE (.int 0))) (tupE (consA (cE (.str "rest")) (consA (cE (.str "root")) (nilA)))) [.val (.lst L), .val (.lst R), .un] = .ok (.val (.bl c)) [.val (.lst L), .val (.lst R), .un])
    {Q : List D} {E : D} (hQ : n = true → c = true → cutD R none (some (-1)) = Q ∧ atI R (-1) = some E) :
    M_trick_in [.val (.lst L)] = .ok (.val (if n && c then .tup [.tup Q, E] else .tup [.tup R, .non])) [.val (.lst L)] := by
  have tp : ∀ l, tupleD [.lst l] = some (.val (.tup l)) := fun _ => rfl
  have F2 : andT (valT (binE neD (vE 1) (lstE (nilA)))) (valT (binE (inD false) (binE ixD (binE ixD (vE 1) (unE negD (cE (.int 1)))) (cE (.int 0))) (tupE (consA (cE (.str "rest")) (consA (cE (.str "root")) (nilA)))))) [.val (.lst L), .val (.lst R), .un] = .ok (n && c) [.val (.lst L), .val (.lst R), .un] := by
    cases n with
    | false => simp [hn]
    | true =>
      have h := hc rfl
      have h1 : valT (binE neD (vE 1) (lstE (nilA))) [.val (.lst L), .val (.lst R), .un] = .ok true [.val (.lst L), .val (.lst R), .un] := by simp [hn]
      have h2 : valT (binE (inD false) (binE ixD (binE ixD (vE 1) (unE negD (cE (.int 1)))) (cE (.int 0))) (tupE (consA (cE (.str "rest")) (consA (cE (.str "root")) (nilA))))) [.val (.lst L), .val (.lst R), .un] = .ok c [.val (.lst L), .val (.lst R), .un] := by
        rw [x_valT, h]
      exact andT_ok h1 h2
  have all : B_trick_in [.val (.lst L), .un, .un] = .rt (.val (if n && c then .tup [.tup Q, E] else .tup [.tup R, .non])) [.val (.lst L), .val (.lst R), .un] := by
    unfold B_trick_in
    refine (seq_nx F1).trans ?_
    cases hb : (n && c) with
    | true =>
      rw [hb] at F2
      simp only [Bool.and_eq_true] at hb
      obtain ⟨q1, q2⟩ := hQ hb.1 hb.2
      refine seq_rt ?_
      rw [x_ifS, F2]
      simp [q1, q2, tp]
    | false =>
      rw [hb] at F2
      refine (seq_nx (ρ' := [.val (.lst L), .val (.lst R), .un]) ?_).trans ?_
      · rw [x_ifS, F2]
        simp
      · simp [tp]
  unfold M_trick_in
  simp [all]
/-- rows of a text -/
def rowsOf (x : Str) : List (List D) := ((cutAt 10 x).drop 1).map itemsOf
abbrev tupsD (rs : List (List D)) : List D := rs.map .tup
theorem tups_ok {rs : List (List D)} (h : ∀ r ∈ rs, Row r) {n : Nat} : D.okL (n + 1) (tupsD rs) = true := by
  rw [okL_all]
  intro d hd
  obtain ⟨r, hr, rfl⟩ := List.mem_map.mp hd
  exact row_ok (h r hr)
theorem ne_rows {rs : List (List D)} (h : ∀ r ∈ rs, Row r) : neD (.lst (tupsD rs)) (.lst []) = vB (!decide (rs = [])) := by
  have h1 : (D.lst (tupsD rs)).ok 40 = true := by rw [ok_lst]; exact tups_ok h
  rw [neD_of h1 (by decide), eqv_lst]
  cases rs with
  | nil => rw [show tupsD [] = [] from rfl, eqvAll_nil]; rfl
  | cons a l => rw [show tupsD (a :: l) = .tup a :: tupsD l from rfl, eqvAll_cn]; rfl
def trickIn (rs : List (List D)) : D := match rs.getLast? with
  | none => .tup [.tup [], .non]
  | some r => if lastE r then .tup [.tup (tupsD rs.dropLast), .tup r] else .tup [.tup (tupsD rs), .non]
theorem rows_row {x : Str} (h : Asc x) : ∀ r ∈ rowsOf x, Row r := fun r hr => by
  obtain ⟨p, hp, rfl⟩ := List.mem_map.mp hr
  exact row_of (((cuts_at (c := 10) (x := x)).part p (List.mem_of_mem_drop hp)).2 h)
theorem rows_len {x : Str} : (rowsOf x).length ≤ x.length := by
  unfold rowsOf
  rw [List.length_map, List.length_drop]
  have := (cuts_at (c := 10) (x := x)).len
  omega
theorem ti_rows {x : Str} (h : x.length ≤ 1000000) : setF 1 (lcE (seqI (slE (vE 0) (intO (cE (.int 1))) (noO))) (gN 2) (okT true) (callF M_items_in (consA (vE 2) (nilA))) [2]) [.val (.lst ((cutAt 10 x).map .str)), .un, .un] = .nx [.val (.lst ((cutAt 10 x).map .str)), .val (.lst (tupsD (rowsOf x))), .un] := by
  have k := cuts_at (c := 10) (x := x)
  have ct : cutD ((cutAt 10 x).map .str) (some ((1 : Nat) : Int)) none = ((cutAt 10 x).drop 1).map .str := by rw [x_cutFrom, List.map_drop]
  rw [show ((1 : Nat) : Int) = 1 from rfl] at ct
  have lc := lc_al (g := D.str) (gt := gN 2) (ct := okT true) (f := callF M_items_in (consA (vE 2) (nilA))) (vs := [2]) (ρ := [.val (.lst ((cutAt 10 x).map .str)), .un, .un]) (h := fun p => .tup (itemsOf p)) (c := fun _ => true) (fun p => [.val (.lst ((cutAt 10 x).map .str)), .un, .val (.str p)]) ((cutAt 10 x).drop 1) [] (fun p hp => ⟨rfl, rfl, fun _ => rows_call (by have := (k.part p (List.mem_of_mem_drop hp)).1; omega), rfl⟩) (by have := k.len; rw [List.length_drop]; show 0 + _ ≤ _; omega)
  rw [List.filter_eq_self.mpr (fun _ _ => rfl), List.nil_append] at lc
  have e : ((cutAt 10 x).drop 1).map (fun p => D.tup (itemsOf p)) = tupsD (rowsOf x) := by
    unfold rowsOf tupsD
    rw [List.map_map]
    rfl
  rw [e] at lc
  refine setF_new (ρ1 := [.val (.lst ((cutAt 10 x).map .str)), .un, .un]) (lcE_ok (ds := ((cutAt 10 x).drop 1).map .str) ?_ rfl lc) rfl
  generalize ((cutAt 10 x).drop 1).map D.str = M at *
  generalize (cutAt 10 x).map D.str = L at *
  simp [ct]
theorem trick_in_S {x : Str} (ha : Asc x) (h : x.length ≤ 1000000) : M_trick_in [.val (.lst ((cutAt 10 x).map .str))] = .ok (.val (trickIn (rowsOf x))) [.val (.lst ((cutAt 10 x).map .str))] := by
  have F1 := ti_rows h
  have rr := rows_row ha
  have hn := ne_rows rr
  generalize rowsOf x = rs at *
  rcases List.eq_nil_or_concat rs with rfl | ⟨q, r, rfl⟩
  · have f := ti_frame (c := false) (Q := []) (E := .non) F1 (n := false) hn (fun z => by cases z) (fun z => by cases z)
    exact f
  · rw [List.concat_eq_append] at *
    have hr := rr r (by simp)
    have la : atI (tupsD (q ++ [r])) (-1) = some (.tup r) := by rw [show tupsD (q ++ [r]) = tupsD q ++ [.tup r] from List.map_append]; exact at_last
    have cl : cutD (tupsD (q ++ [r])) none (some (-1)) = tupsD q := by rw [show tupsD (q ++ [r]) = tupsD q ++ [.tup r] from List.map_append]; exact cut_last
    have f := ti_frame (c := lastE r) (Q := tupsD q) (E := .tup r) F1 (n := true) (by rw [hn]; simp) (fun _ => ti_last hr la) (fun _ _ => ⟨cl, la⟩)
    rw [f]
    unfold trickIn
    rw [List.getLast?_concat]
    simp only [Bool.true_and, List.dropLast_concat]
/-! rows as steps and ends -/
theorem str_ne : ¬ (("add" : Str) = "times") ∧ ¬ (("add" : Str) = "share") ∧ ¬ (("times" : Str) = "add") ∧ ¬ (("share" : Str) = "add") ∧ ¬ (("times" : Str) = "share") ∧ ¬ (("share" : Str) = "times") ∧ ¬ (("rest" : Str) = "root") ∧ ¬ (("root" : Str) = "rest") := by decide
theorem any_strs {a : Str} : ∀ {l : List Str}, (l.map D.str).any (fun y => D.eqv y (.str a)) = decide (a ∈ l)
  | [] => by simp
  | b :: l => by
    have ih := any_strs (a := a) (l := l)
    have e : D.eqv (.str b) (.str a) = decide (a = b) := by
      simp only [D.eqv, D.py, PyData.eqv]
      rw [Bool.eq_iff_iff]
      simp
      exact eq_comm
    rw [List.map_cons, List.any_cons, ih, e]
    simp
theorem flat_strs {l : List Str} : (l.map D.str).all flatD = true := by
  rw [List.all_eq_true]
  intro d hd
  obtain ⟨t, _, rfl⟩ := List.mem_map.mp hd
  rfl
theorem in_T {a : Str} {l : List Str} : inD false (.str a) (.tup (l.map .str)) = vB (decide (a ∈ l)) := by
  show (if flatD (.str a) && (l.map D.str).all flatD then vB ((l.map D.str).any (fun y => D.eqv y (.str a))) else none) = _
  rw [flat_strs, any_strs]
  rfl
theorem in_L {a : Str} {l : List Str} : inD false (.str a) (.lst (l.map .str)) = vB (decide (a ∈ l)) := by
  show (if flatD (.str a) && (l.map D.str).all flatD then vB ((l.map D.str).any (fun y => D.eqv y (.str a))) else none) = _
  rw [flat_strs, any_strs]
  rfl
def names : List Str := things.map Thing.name
def stpB : List D → Bool
  | [.str a, .int k] => (decide (a = "times") || decide (a = "share")) && decide (2 ≤ k ∧ k ≤ 12)
  | [.str a, .int t, .str w] => decide (a = "add") && (decide (-9 ≤ t ∧ t ≤ 9) && (!decide (t = 0) && decide (w ∈ names)))
  | _ => false
def endB : List D → Bool
  | [.str a] => decide (a = "root")
  | [.str a, .int k] => decide (a = "rest") && decide (2 ≤ k ∧ k ≤ 20)
  | _ => false
theorem in_ts {a : Str} : inD false (.str a) (.tup [.str "times", .str "share"]) = vB (decide (a = "times") || decide (a = "share")) := by
  have := in_T (a := a) (l := ["times", "share"])
  simp at this
  exact this
theorem is_thing_S {w : Str} : M_is_thing [.val (.str w)] = .ok (.val (.bl (decide (w ∈ names)))) [.val (.str w)] := by
  have e : inD false (.str w) (.tup [.str "number", .str "turned", .str "sum", .str "first", .str "last", .str "one"]) = vB (decide (w ∈ names)) := in_T (l := ["number", "turned", "sum", "first", "last", "one"])
  generalize decide (w ∈ names) = c at *
  simp [M_is_thing, B_is_thing, e]
theorem is_thing_I {i : Int} : M_is_thing [.val (.int i)] = .ok (.val (.bl false)) [.val (.int i)] := by
  simp [M_is_thing, B_is_thing]
theorem is_int_S {w : Str} {a b : Int} : M_is_int [.val (.str w), .val (.int a), .val (.int b)] = .ok (.val (.bl false)) [.val (.str w), .val (.int a), .val (.int b)] := by
  simp [M_is_int, B_is_int]
theorem liw_S {w : Str} {a b : Int} : M__law_is_whole [.val (.str w), .val (.int a), .val (.int b)] = .ok (.val (.bl false)) [.val (.str w), .val (.int a), .val (.int b)] := by
  simp [M__law_is_whole, B__law_is_whole]
theorem words_S : M__law_words [] = .ok (.new (.lst (names.map .str))) [] := words_ok
theorem ps2 {a : Str} {k : Int} : M_is_step [.val (.tup [.str a, .int k])] = .ok (.val (.bl (stpB [.str a, .int k]))) [.val (.tup [.str a, .int k])] := by
  have iw := is_int_ok (i := k) (a := 2) (b := 12)
  rw [show stpB [.str a, .int k] = ((decide (a = "times") || decide (a = "share")) && decide (2 ≤ k ∧ k ≤ 12)) from rfl]
  generalize decide (2 ≤ k ∧ k ≤ 12) = c at *
  obtain ⟨a1, a2, a3, a4, a5, a6, a7, a8⟩ := str_ne
  by_cases h : a = "add"
  · subst h
    simp [M_is_step, B_is_step, eqD_str, eqD_int, iw, a1, a2]
  · by_cases h1 : a = "times"
    · subst h1
      simp [M_is_step, B_is_step, eqD_str, eqD_int, iw, in_ts, h]
    · by_cases h2 : a = "share"
      · subst h2
        simp [M_is_step, B_is_step, eqD_str, eqD_int, iw, in_ts, h]
      · simp [M_is_step, B_is_step, eqD_str, eqD_int, iw, in_ts, h, h1, h2]
theorem ps3 {a w : Str} {k : Int} : M_is_step [.val (.tup [.str a, .int k, .str w])] = .ok (.val (.bl (stpB [.str a, .int k, .str w]))) [.val (.tup [.str a, .int k, .str w])] := by
  have iw := is_int_ok (i := k) (a := -9) (b := 9)
  have it := is_thing_S (w := w)
  rw [show stpB [.str a, .int k, .str w] = (decide (a = "add") && (decide (-9 ≤ k ∧ k ≤ 9) && (!decide (k = 0) && decide (w ∈ names)))) from rfl]
  generalize decide (-9 ≤ k ∧ k ≤ 9) = c at *
  generalize decide (w ∈ names) = e at *
  obtain ⟨a1, a2, a3, a4, a5, a6, a7, a8⟩ := str_ne
  by_cases h : a = "add"
  · subst h
    by_cases hk : k = 0
    · subst hk
      cases c <;> simp [M_is_step, B_is_step, eqD_str, eqD_int, neD_int, iw, it]
    · cases c <;> simp [M_is_step, B_is_step, eqD_str, eqD_int, neD_int, iw, it, hk]
  · by_cases h1 : a = "times"
    · subst h1
      simp [M_is_step, B_is_step, eqD_str, eqD_int, iw, in_ts, h]
    · by_cases h2 : a = "share"
      · subst h2
        simp [M_is_step, B_is_step, eqD_str, eqD_int, iw, in_ts, h]
      · simp [M_is_step, B_is_step, eqD_str, eqD_int, iw, in_ts, h, h1, h2]
theorem ps_ok {r : List D} (hr : Row r) : M_is_step [.val (.tup r)] = .ok (.val (.bl (stpB r))) [.val (.tup r)] := by
  obtain ⟨a1, a2, a3, a4, a5, a6, a7, a8⟩ := str_ne
  match r, hr with
  | [], hr => exact absurd rfl hr.ne
  | [a], hr => simp [M_is_step, B_is_step, stpB]
  | [a, b], hr =>
    rcases hr.it a (by simp) with ⟨i, rfl, _⟩ | ⟨a, rfl, _⟩
    · simp [M_is_step, B_is_step, stpB]
    · rcases hr.it b (by simp) with ⟨i, rfl, _⟩ | ⟨b, rfl, _⟩
      · exact ps2
      · have iw := is_int_S (w := b) (a := 2) (b := 12)
        by_cases h : a = "add"
        · simp [M_is_step, B_is_step, stpB, eqD_str, eqD_int, h]
        · by_cases h1 : a = "times"
          · simp [M_is_step, B_is_step, stpB, eqD_str, eqD_int, h, h1, in_ts, iw, a3]
          · by_cases h2 : a = "share"
            · simp [M_is_step, B_is_step, stpB, eqD_str, eqD_int, h, h1, h2, in_ts, iw, a4, a6]
            · simp [M_is_step, B_is_step, stpB, eqD_str, eqD_int, h, h1, h2, in_ts, iw]
  | [a, b, c], hr =>
    rcases hr.it a (by simp) with ⟨i, rfl, _⟩ | ⟨a, rfl, _⟩
    · simp [M_is_step, B_is_step, stpB]
    · rcases hr.it b (by simp) with ⟨i, rfl, _⟩ | ⟨b, rfl, _⟩
      · rcases hr.it c (by simp) with ⟨j, rfl, _⟩ | ⟨c, rfl, _⟩
        · have iw := is_int_ok (i := i) (a := -9) (b := 9)
          have it := is_thing_I (i := j)
          generalize decide (-9 ≤ i ∧ i ≤ 9) = k at *
          by_cases h : a = "add"
          · by_cases hk : i = 0
            · subst hk
              cases k <;> simp [M_is_step, B_is_step, stpB, eqD_str, eqD_int, neD_int, h, iw, it]
            · cases k <;> simp [M_is_step, B_is_step, stpB, eqD_str, eqD_int, neD_int, h, iw, it, hk]
          · by_cases h1 : a = "times"
            · simp [M_is_step, B_is_step, stpB, eqD_str, eqD_int, h, h1, in_ts, iw, a3]
            · by_cases h2 : a = "share"
              · simp [M_is_step, B_is_step, stpB, eqD_str, eqD_int, h, h1, h2, in_ts, iw, a4, a6]
              · simp [M_is_step, B_is_step, stpB, eqD_str, eqD_int, h, h1, h2, in_ts, iw]
        · exact ps3
      · have iw := is_int_S (w := b) (a := -9) (b := 9)
        by_cases h : a = "add"
        · simp [M_is_step, B_is_step, stpB, eqD_str, eqD_int, h, iw]
        · by_cases h1 : a = "times"
          · simp [M_is_step, B_is_step, stpB, eqD_str, eqD_int, h, h1, in_ts, iw, a3]
          · by_cases h2 : a = "share"
            · simp [M_is_step, B_is_step, stpB, eqD_str, eqD_int, h, h1, h2, in_ts, iw, a4, a6]
            · simp [M_is_step, B_is_step, stpB, eqD_str, eqD_int, h, h1, h2, in_ts, iw]
  | a :: b :: c :: d :: q, hr =>
    have hn : ¬ ((q.length : Int) + 1 + 1 + 1 + 1 ≤ 3) := by omega
    have hn2 : ¬ (q.length + 1 + 1 + 1 + 1 ≤ 3) := by omega
    have hp : (2 : Int) ≤ (q.length : Int) + 1 + 1 + 1 + 1 := by omega
    simp [M_is_step, B_is_step, stpB, hn, hn2, hp]
theorem in_23 {n : Int} : inD true (.int n) (.tup [.int 2, .int 3]) = vB (!(decide (n = 2) || decide (n = 3))) := by
  have e : ∀ m : Int, D.eqv (.int m) (.int n) = decide (n = m) := fun m => by
    simp only [D.eqv, D.py, PyData.eqv]
    rw [Bool.eq_iff_iff]
    simp
    exact eq_comm
  show vB (!(D.eqv (.int 2) (.int n) || (D.eqv (.int 3) (.int n) || false))) = _
  rw [e, e, Bool.or_false]
theorem in_12 {n : Int} : inD true (.int n) (.tup [.int 1, .int 2]) = vB (!(decide (n = 1) || decide (n = 2))) := by
  have e : ∀ m : Int, D.eqv (.int m) (.int n) = decide (n = m) := fun m => by
    simp only [D.eqv, D.py, PyData.eqv]
    rw [Bool.eq_iff_iff]
    simp
    exact eq_comm
  show vB (!(D.eqv (.int 1) (.int n) || (D.eqv (.int 2) (.int n) || false))) = _
  rw [e, e, Bool.or_false]
theorem ls2 {a : Str} {k : Int} : M__law_is_step [.val (.tup [.str a, .int k])] = .ok (.val (.bl (stpB [.str a, .int k]))) [.val (.tup [.str a, .int k])] := by
  have iw := liw_ok (i := k) (a := 2) (b := 12)
  rw [show stpB [.str a, .int k] = ((decide (a = "times") || decide (a = "share")) && decide (2 ≤ k ∧ k ≤ 12)) from rfl]
  generalize decide (2 ≤ k ∧ k ≤ 12) = c at *
  obtain ⟨a1, a2, a3, a4, a5, a6, a7, a8⟩ := str_ne
  by_cases h1 : a = "times"
  · subst h1
    simp [M__law_is_step, B__law_is_step, eqD_str, eqD_int, iw, in_ts, in_23]
  · by_cases h2 : a = "share"
    · subst h2
      simp [M__law_is_step, B__law_is_step, eqD_str, eqD_int, iw, in_ts, in_23]
    · simp [M__law_is_step, B__law_is_step, eqD_str, eqD_int, iw, in_ts, h1, h2, in_23]
theorem ls3 {a w : Str} {k : Int} : M__law_is_step [.val (.tup [.str a, .int k, .str w])] = .ok (.val (.bl (stpB [.str a, .int k, .str w]))) [.val (.tup [.str a, .int k, .str w])] := by
  have iw := liw_ok (i := k) (a := -9) (b := 9)
  have it := in_L (a := w) (l := names)
  have wo := words_S
  rw [show stpB [.str a, .int k, .str w] = (decide (a = "add") && (decide (-9 ≤ k ∧ k ≤ 9) && (!decide (k = 0) && decide (w ∈ names)))) from rfl]
  generalize decide (-9 ≤ k ∧ k ≤ 9) = c at *
  generalize decide (w ∈ names) = e at *
  generalize names.map D.str = W at *
  by_cases h : a = "add"
  · subst h
    by_cases hk : k = 0
    · subst hk
      cases c <;> simp [M__law_is_step, B__law_is_step, eqD_str, neD_str, eqD_int, neD_int, iw, it, in_23, wo]
    · cases c <;> simp [M__law_is_step, B__law_is_step, eqD_str, neD_str, eqD_int, neD_int, iw, it, hk, in_23, wo]
  · simp [M__law_is_step, B__law_is_step, eqD_str, neD_str, eqD_int, h, in_23]
theorem ls_ok {r : List D} (hr : Row r) : M__law_is_step [.val (.tup r)] = .ok (.val (.bl (stpB r))) [.val (.tup r)] := by
  obtain ⟨a1, a2, a3, a4, a5, a6, a7, a8⟩ := str_ne
  match r, hr with
  | [], hr => exact absurd rfl hr.ne
  | [a], hr => simp [M__law_is_step, B__law_is_step, stpB, in_23]
  | [a, b], hr =>
    rcases hr.it a (by simp) with ⟨i, rfl, _⟩ | ⟨a, rfl, _⟩
    · simp [M__law_is_step, B__law_is_step, stpB, in_23]
    · rcases hr.it b (by simp) with ⟨i, rfl, _⟩ | ⟨b, rfl, _⟩
      · exact ls2
      · have iw := liw_S (w := b) (a := 2) (b := 12)
        by_cases h1 : a = "times"
        · simp [M__law_is_step, B__law_is_step, stpB, eqD_str, eqD_int, h1, in_ts, iw, in_23]
        · by_cases h2 : a = "share"
          · simp [M__law_is_step, B__law_is_step, stpB, eqD_str, eqD_int, h1, h2, in_ts, iw, a6, in_23]
          · simp [M__law_is_step, B__law_is_step, stpB, eqD_str, eqD_int, h1, h2, in_ts, iw, in_23]
  | [a, b, c], hr =>
    rcases hr.it a (by simp) with ⟨i, rfl, _⟩ | ⟨a, rfl, _⟩
    · simp [M__law_is_step, B__law_is_step, stpB, in_23]
    · rcases hr.it b (by simp) with ⟨i, rfl, _⟩ | ⟨b, rfl, _⟩
      · rcases hr.it c (by simp) with ⟨j, rfl, _⟩ | ⟨c, rfl, _⟩
        · have iw := liw_ok (i := i) (a := -9) (b := 9)
          generalize decide (-9 ≤ i ∧ i ≤ 9) = k at *
          by_cases h : a = "add"
          · by_cases hk : i = 0
            · subst hk
              cases k <;> simp [M__law_is_step, B__law_is_step, stpB, eqD_str, neD_str, eqD_int, neD_int, h, iw, in_23]
            · cases k <;> simp [M__law_is_step, B__law_is_step, stpB, eqD_str, neD_str, eqD_int, neD_int, h, iw, hk, in_23]
          · simp [M__law_is_step, B__law_is_step, stpB, eqD_str, neD_str, eqD_int, h, in_23]
        · exact ls3
      · have iw := liw_S (w := b) (a := -9) (b := 9)
        by_cases h : a = "add"
        · simp [M__law_is_step, B__law_is_step, stpB, eqD_str, neD_str, eqD_int, h, iw, in_23]
        · simp [M__law_is_step, B__law_is_step, stpB, eqD_str, neD_str, eqD_int, h, in_23]
  | a :: b :: c :: d :: q, hr =>
    have hn : ¬ ((q.length : Int) + 1 + 1 + 1 + 1 = 3) := by omega
    have hn2 : ¬ ((q.length : Int) + 1 + 1 + 1 + 1 = 2) := by omega
    have hn3 : ¬ (q.length + 1 + 1 + 1 + 1 = 3) := by omega
    have hn4 : ¬ (q.length + 1 + 1 + 1 + 1 = 2) := by omega
    simp [M__law_is_step, B__law_is_step, stpB, in_23, hn, hn2, hn3, hn4]
theorem pe_rest {k : Int} : M_is_end [.val (.tup [.str "rest", .int k])] = .ok (.val (.bl (decide (2 ≤ k ∧ k ≤ 20)))) [.val (.tup [.str "rest", .int k])] := by
  obtain ⟨a1, a2, a3, a4, a5, a6, a7, a8⟩ := str_ne
  have iw := is_int_ok (i := k) (a := 2) (b := 20)
  generalize decide (2 ≤ k ∧ k ≤ 20) = c at *
  simp [M_is_end, B_is_end, eqD_str, eqD_int, a7, iw]
theorem pe_ok {r : List D} (hr : Row r) : M_is_end [.val (.tup r)] = .ok (.val (.bl (endB r))) [.val (.tup r)] := by
  obtain ⟨a1, a2, a3, a4, a5, a6, a7, a8⟩ := str_ne
  match r, hr with
  | [], hr => exact absurd rfl hr.ne
  | [a], hr =>
    rcases hr.it a (by simp) with ⟨i, rfl, _⟩ | ⟨a, rfl, _⟩
    · simp [M_is_end, B_is_end, endB, eqD_int]
    · by_cases h : a = "root"
      · simp [M_is_end, B_is_end, endB, eqD_str, eqD_int, h]
      · by_cases h1 : a = "rest"
        · simp [M_is_end, B_is_end, endB, eqD_str, eqD_int, h1, a7]
        · simp [M_is_end, B_is_end, endB, eqD_str, eqD_int, h, h1]
  | [a, b], hr =>
    rcases hr.it a (by simp) with ⟨i, rfl, _⟩ | ⟨a, rfl, _⟩
    · simp [M_is_end, B_is_end, endB, eqD_int]
    · by_cases h : a = "root"
      · rcases hr.it b (by simp) with ⟨i, rfl, _⟩ | ⟨b, rfl, _⟩ <;> simp [M_is_end, B_is_end, endB, eqD_str, eqD_int, h, a8]
      · by_cases h1 : a = "rest"
        · subst h1
          rcases hr.it b (by simp) with ⟨i, rfl, _⟩ | ⟨b, rfl, _⟩
          · rw [pe_rest, show endB [.str "rest", .int i] = (decide (("rest" : Str) = "rest") && decide (2 ≤ i ∧ i ≤ 20)) from rfl, decide_eq_true rfl, Bool.true_and]
          · simp [M_is_end, B_is_end, endB, eqD_str, eqD_int, h, is_int_S]
        · rcases hr.it b (by simp) with ⟨i, rfl, _⟩ | ⟨b, rfl, _⟩ <;> simp [M_is_end, B_is_end, endB, eqD_str, eqD_int, h, h1]
  | a :: b :: c :: q, hr =>
    have hn : ¬ ((q.length : Int) + 1 + 1 + 1 = 0) := by omega
    have hn1 : ¬ ((q.length : Int) + 1 + 1 + 1 = 1) := by omega
    have hn2 : ¬ ((q.length : Int) + 1 + 1 + 1 = 2) := by omega
    have hm1 : ¬ (q.length + 1 + 1 + 1 = 1) := by omega
    have hm2 : ¬ (q.length + 1 + 1 + 1 = 2) := by omega
    rcases hr.it a (by simp) with ⟨i, rfl, _⟩ | ⟨a, rfl, _⟩
    · simp [M_is_end, B_is_end, endB, eqD_int, hn]
    · by_cases h : a = "root"
      · simp [M_is_end, B_is_end, endB, eqD_str, eqD_int, h, hn, hn1, hm1]
      · by_cases h1 : a = "rest"
        · simp [M_is_end, B_is_end, endB, eqD_str, eqD_int, h1, hn, hn2, hm2, a7]
        · simp [M_is_end, B_is_end, endB, eqD_str, eqD_int, h, h1, hn]
theorem le_rest {k : Int} : M__law_is_end [.val (.tup [.str "rest", .int k])] = .ok (.val (.bl (decide (2 ≤ k ∧ k ≤ 20)))) [.val (.tup [.str "rest", .int k])] := by
  have iw := liw_ok (i := k) (a := 2) (b := 20)
  generalize decide (2 ≤ k ∧ k ≤ 20) = c at *
  simp [M__law_is_end, B__law_is_end, eqD_str, eqD_int, in_12, iw]
theorem le_ok {r : List D} (hr : Row r) : M__law_is_end [.val (.tup r)] = .ok (.val (.bl (endB r))) [.val (.tup r)] := by
  obtain ⟨a1, a2, a3, a4, a5, a6, a7, a8⟩ := str_ne
  match r, hr with
  | [], hr => exact absurd rfl hr.ne
  | [a], hr =>
    rcases hr.it a (by simp) with ⟨i, rfl, _⟩ | ⟨a, rfl, _⟩
    · simp [M__law_is_end, B__law_is_end, endB, eqD_int, in_12]
    · simp [M__law_is_end, B__law_is_end, endB, eqD_str, eqD_int, in_12]
  | [a, b], hr =>
    rcases hr.it a (by simp) with ⟨i, rfl, _⟩ | ⟨a, rfl, _⟩
    · simp [M__law_is_end, B__law_is_end, endB, eqD_int, in_12]
    · by_cases h1 : a = "rest"
      · subst h1
        rcases hr.it b (by simp) with ⟨i, rfl, _⟩ | ⟨b, rfl, _⟩
        · rw [le_rest, show endB [.str "rest", .int i] = (decide (("rest" : Str) = "rest") && decide (2 ≤ i ∧ i ≤ 20)) from rfl, decide_eq_true rfl, Bool.true_and]
        · simp [M__law_is_end, B__law_is_end, endB, eqD_str, eqD_int, liw_S, in_12]
      · rcases hr.it b (by simp) with ⟨i, rfl, _⟩ | ⟨b, rfl, _⟩ <;> simp [M__law_is_end, B__law_is_end, endB, eqD_str, eqD_int, h1, in_12]
  | a :: b :: c :: q, hr =>
    have hn1 : ¬ ((q.length : Int) + 1 + 1 + 1 = 1) := by omega
    have hn2 : ¬ ((q.length : Int) + 1 + 1 + 1 = 2) := by omega
    have hm1 : ¬ (q.length + 1 + 1 + 1 = 1) := by omega
    have hm2 : ¬ (q.length + 1 + 1 + 1 = 2) := by omega
    simp [M__law_is_end, B__law_is_end, endB, in_12, hn1, hn2, hm1, hm2]
/-! tricks of rows -/
theorem name_of {w : Str} (h : w ∈ names) : ∃ t : Thing, t.name = w := by
  obtain ⟨t, _, rfl⟩ := List.mem_map.mp h
  exact ⟨t, rfl⟩
theorem stp_of {r : List D} (h : stpB r = true) : ∃ s : Stp, s.ok ∧ s.d = .tup r := by
  unfold stpB at h
  split at h
  · rename_i a k
    simp only [Bool.and_eq_true, Bool.or_eq_true, decide_eq_true_eq] at h
    obtain ⟨h1 | h1, h2⟩ := h
    · subst h1; exact ⟨.times k, h2, rfl⟩
    · subst h1; exact ⟨.share k, h2, rfl⟩
  · rename_i a t w
    simp only [Bool.and_eq_true, decide_eq_true_eq, Bool.not_eq_true', decide_eq_false_iff_not] at h
    obtain ⟨h1, h2, h3, h4⟩ := h
    obtain ⟨w, rfl⟩ := name_of h4
    subst h1
    exact ⟨.add t w, ⟨h2.1, h2.2, h3⟩, rfl⟩
  · cases h
theorem end_of {r : List D} (h : endB r = true) : ∃ e : En, e.ok ∧ e.d = .tup r := by
  unfold endB at h
  split at h
  · rename_i a
    have h := of_decide_eq_true h
    subst h; exact ⟨.root, trivial, rfl⟩
  · rename_i a k
    simp only [Bool.and_eq_true, decide_eq_true_eq] at h
    obtain ⟨h1, h2⟩ := h
    subst h1; exact ⟨.rest k, h2, rfl⟩
  · cases h
theorem end_last {r : List D} (h : endB r = true) : lastE r = true := by
  unfold endB at h
  split at h
  · rename_i a
    have h := of_decide_eq_true h
    subst h; simp [lastE]
  · rename_i a k
    simp only [Bool.and_eq_true, decide_eq_true_eq] at h
    obtain ⟨h1, h2⟩ := h
    subst h1; simp [lastE]
  · cases h
theorem last_stp {r : List D} (h : lastE r = true) : stpB r = false := by
  have n1 : ¬ (("rest" : Str) = "times") ∧ ¬ (("rest" : Str) = "share") ∧ ¬ (("rest" : Str) = "add") ∧ ¬ (("root" : Str) = "times") ∧ ¬ (("root" : Str) = "share") ∧ ¬ (("root" : Str) = "add") := by decide
  obtain ⟨m1, m2, m3, m4, m5, m6⟩ := n1
  unfold lastE at h
  split at h
  · rename_i a q
    simp only [Bool.or_eq_true, decide_eq_true_eq] at h
    rcases h with rfl | rfl
    · unfold stpB
      split
      · rename_i a k e
        injection e with e1 e2
        injection e1 with e1
        subst e1
        simp [m1, m2]
      · rename_i a k w e
        injection e with e1 e2
        injection e1 with e1
        subst e1
        simp [m3]
      · rfl
    · unfold stpB
      split
      · rename_i a k e
        injection e with e1 e2
        injection e1 with e1
        subst e1
        simp [m4, m5]
      · rename_i a k w e
        injection e with e1 e2
        injection e1 with e1
        subst e1
        simp [m6]
      · rfl
  · cases h
theorem steps_of : ∀ {rs : List (List D)}, rs.all stpB = true → ∃ ss : List Stp, (∀ s ∈ ss, s.ok) ∧ ss.map Stp.d = tupsD rs
  | [], _ => ⟨[], fun s h => (List.not_mem_nil h).elim, rfl⟩
  | r :: rs, h => by
    simp only [List.all_cons, Bool.and_eq_true] at h
    obtain ⟨s, h1, h2⟩ := stp_of h.1
    obtain ⟨ss, h3, h4⟩ := steps_of h.2
    refine ⟨s :: ss, fun t ht => ?_, by rw [List.map_cons, h2, h4]; rfl⟩
    rcases List.mem_cons.mp ht with rfl | ht
    · exact h1
    · exact h3 t ht
theorem isb_frame0 {E : D} (hE : M_is_end [.val E] = .ok (.val (.bl false)) [.val E]) {l : List D} : M_is_trick [.val (.tup [.tup l, E])] = .ok (.val (.bl false)) [.val (.tup [.tup l, E])] := by
  simp [M_is_trick, B_is_trick, neD_int, hE]
theorem lit_frame0 {E : D} (hE : M__law_is_end [.val E] = .ok (.val (.bl false)) [.val E]) {l : List D} : M__law_is_trick [.val (.tup [.tup l, E])] = .ok (.val (.bl false)) [.val (.tup [.tup l, E])] := by
  simp [M__law_is_trick, B__law_is_trick, neD_int, hE]
theorem tr_both {rs : List (List D)} (h : ∀ r ∈ rs, Row r) (hl : rs.length ≤ 1000000) {E : D} {eb : Bool} (hP : M_is_end [.val E] = .ok (.val (.bl eb)) [.val E]) (hL : M__law_is_end [.val E] = .ok (.val (.bl eb)) [.val E]) (he : eb = true → ∃ e : En, e.ok ∧ e.d = E) :
    ∃ b, M_is_trick [.val (.tup [.tup (tupsD rs), E])] = .ok (.val (.bl b)) [.val (.tup [.tup (tupsD rs), E])] ∧ M__law_is_trick [.val (.tup [.tup (tupsD rs), E])] = .ok (.val (.bl b)) [.val (.tup [.tup (tupsD rs), E])] ∧
      (b = true → ∃ ss e, OkT ss e ∧ D.tup [.tup (tupsD rs), E] = trk ss e) ∧ (b = true → rs.all stpB = true ∧ eb = true) := by
  cases eb with
  | false => exact ⟨false, isb_frame0 hP, lit_frame0 hL, fun z => Bool.noConfusion z, fun z => Bool.noConfusion z⟩
  | true =>
    obtain ⟨e, e1, rfl⟩ := he rfl
    by_cases h8 : (8 : Int) < (tupsD rs).length
    · exact ⟨false, isb_frame1 hP rfl h8, lit_frame1 hL rfl h8, fun z => Bool.noConfusion z, fun z => Bool.noConfusion z⟩
    · have h8' : rs.length ≤ 8 := by simp at h8; omega
      have lc := lc_al (g := D.tup) (gt := gN 1) (ct := okT true) (f := callF M_is_step (consA (vE 1) nilA)) (vs := [1]) (ρ := [.val (.tup [.tup (tupsD rs), e.d]), .un]) (h := fun r => .bl (stpB r)) (c := fun _ => true) (fun s => [.val (.tup [.tup (tupsD rs), e.d]), .val (.tup s)]) rs [] (fun r hr => ⟨rfl, rfl, fun _ => isb_test (ps_ok (h r hr)), rfl⟩) (by show 0 + _ ≤ _; omega)
      rw [List.filter_eq_self.mpr (fun _ _ => rfl), List.nil_append] at lc
      have al := all_bls (l := rs.map stpB)
      rw [List.map_map, List.all_map] at al
      have lk := lc_al (g := D.tup) (gt := gN 1) (ct := notT (valT (callF M__law_is_step (consA (vE 1) (nilA))))) (f := vE 1) (vs := [1]) (ρ := [.val (.tup [.tup (tupsD rs), e.d]), .un]) (h := D.tup) (c := fun r => !stpB r) (fun s => [.val (.tup [.tup (tupsD rs), e.d]), .val (.tup s)]) rs [] (fun r hr => ⟨rfl, bs_test (ls_ok (h r hr)), fun _ => rfl, rfl⟩) (by show 0 + _ ≤ _; omega)
      rw [List.nil_append] at lk
      have nr := ne_rows (rs := rs.filter fun r => !stpB r) fun r hr => h r (List.mem_filter.mp hr).1
      have nf := nil_filter (f := fun r : List D => !stpB r) (l := rs)
      simp only [Bool.not_not] at nf
      rw [nf] at nr
      have key : ∀ p : Int, (rs.all stpB = true → M_shared_by [.val (.tup (tupsD rs))] = .ok (.val (.int p)) [.val (.tup (tupsD rs))]) → (rs.all stpB = true → M__law_product [.val (.tup (tupsD rs))] = .ok (.val (.int p)) [.val (.tup (tupsD rs))]) →
          ((rs.all stpB && decide (p ≤ 36)) = true → ∃ ss en, OkT ss en ∧ D.tup [.tup (tupsD rs), e.d] = trk ss en) →
          ∃ b, M_is_trick [.val (.tup [.tup (tupsD rs), e.d])] = .ok (.val (.bl b)) [.val (.tup [.tup (tupsD rs), e.d])] ∧ M__law_is_trick [.val (.tup [.tup (tupsD rs), e.d])] = .ok (.val (.bl b)) [.val (.tup [.tup (tupsD rs), e.d])] ∧
            (b = true → ∃ ss en, OkT ss en ∧ D.tup [.tup (tupsD rs), e.d] = trk ss en) ∧ (b = true → rs.all stpB = true ∧ true = true) := fun p k1 k2 k3 =>
        ⟨rs.all stpB && decide (p ≤ 36), isb_frame hP h8 lc al k1, lit_frame hL h8 lk nr k2, k3, fun z => by
          simp only [Bool.and_eq_true] at z
          exact ⟨z.1, rfl⟩⟩
      by_cases ha : rs.all stpB = true
      · obtain ⟨ss, s1, s2⟩ := steps_of ha
        have sl : ss.length = rs.length := by have := congrArg List.length s2; simpa using this
        have t1 := shared_ok s1 (by omega)
        have t2 := product_ok s1 (by omega)
        unfold sts at t1 t2
        rw [s2] at t1 t2
        refine key (shp ss) (fun _ => t1) (fun _ => t2) fun z => ⟨ss, e, ⟨s1, by omega, ?_, e1⟩, by rw [← s2]⟩
        simp only [Bool.and_eq_true, decide_eq_true_eq] at z
        exact z.2
      · exact key 0 (fun z => absurd z ha) (fun z => absurd z ha) fun z => by
          simp only [Bool.and_eq_true] at z
          exact absurd z.1 ha
/-! the two readers -/
theorem read_frame {x : Str} {L : List D} {T : D} {b : Bool} {t : Str} (sp : splitD (.str x) (.str "\n") = some (.new (.lst L))) (ti : M_trick_in [.val (.lst L)] = .ok (.val T) [.val (.lst L)]) (it : M_is_trick [.val T] = .ok (.val (.bl b)) [.val T]) (tx : b = true → M_text_of [.val T] = .ok (.val (.str t)) [.val T]) :
    M_read_trick [.val (.str x)] = if (b && decide (t = x)) = true then .ok (.val T) [.val (.str x)] else .ex ⟨"NoText", none⟩ [.val (.str x)] := by
  cases b with
  | false => simp [M_read_trick, B_read_trick, mthE, sp, ti, it]
  | true =>
    have tx := tx rfl
    by_cases h : t = x
    · subst h
      simp [M_read_trick, B_read_trick, mthE, sp, ti, it, tx, neD_str]
    · simp [M_read_trick, B_read_trick, mthE, sp, ti, it, tx, neD_str, h]
theorem litem_call {A p : Str} {c1 c2 c4 : Cell} {x : Str} (hx : Asc x) (h : x.length ≤ 1000000) : callF M__law_item (consA (vE 5) (nilA)) [.val (.str A), c1, c2, .val (.str p), c4, .val (.str x)] = .ok (.val (itemD x)) [.val (.str A), c1, c2, .val (.str p), c4, .val (.str x)] := by
  simp [law_item_ok hx h]
theorem due_step {A x : Str} {R : List D} {c3 : Cell} (hx : Asc x) (h : x.length ≤ 1000000) (hR : R.length ≤ 2000000) : L__law_due_1 [.val (.str A), .own false (.lst R), .val .non, .val (.str x), .un, .un] = .nx [.val (.str A), .own false (.lst (R ++ [.tup (itemsOf x)])), .val .non, .val (.str x), .un, .un] := by
  have k := cuts_at (c := 32) (x := x)
  have sp := split_sp h
  have lc := lc_al (g := D.str) (gt := gN 5) (ct := okT true) (f := callF M__law_item (consA (vE 5) (nilA))) (vs := [5]) (ρ := [.val (.str A), .own false (.lst R), .val .non, .val (.str x), .un, .un]) (h := itemD) (c := fun _ => true) (fun p => [.val (.str A), .own false (.lst R), .val .non, .val (.str x), .un, .val (.str p)]) (cutAt 32 x) [] (fun p hp => ⟨rfl, rfl, fun _ => litem_call ((k.part p hp).2 hx) (by have := (k.part p hp).1; omega), rfl⟩) (by have := k.len; show 0 + _ ≤ _; omega)
  rw [List.filter_eq_self.mpr (fun _ _ => rfl), List.nil_append] at lc
  have tp : tupleD [.lst ((cutAt 32 x).map itemD)] = some (.val (.tup ((cutAt 32 x).map itemD))) := rfl
  unfold itemsOf
  generalize (cutAt 32 x).map itemD = I at *
  generalize (cutAt 32 x).map D.str = L at *
  have z : R.length < 16777216 := by omega
  simp [L__law_due_1, mthE, sp, lc, tp, z]
theorem due_loop {A : Str} : ∀ (ps : List Str) (R : List D) (c3 : Cell), Fre c3 → (∀ p ∈ ps, Asc p ∧ p.length ≤ 1000000) → R.length + ps.length ≤ 2000000 →
    ∃ c3', Fre c3' ∧ forL (gN 3) L__law_due_1 (ps.map .str) [.val (.str A), .own false (.lst R), .val .non, c3, .un, .un] = .nx [.val (.str A), .own false (.lst (R ++ ps.map fun p => .tup (itemsOf p))), .val .non, c3', .un, .un]
  | [], R, c3, f3, _, _ => ⟨c3, f3, by simp⟩
  | p :: ps, R, c3, f3, h, hl => by
    obtain ⟨h1, h2⟩ := h p (List.mem_cons_self ..)
    simp only [List.length_cons] at hl
    obtain ⟨c3', f3', e⟩ := due_loop (A := A) ps (R ++ [.tup (itemsOf p)]) (.val (.str p)) (.inr ⟨_, rfl⟩) (fun q hq => h q (List.mem_cons_of_mem _ hq)) (by simp; omega)
    refine ⟨c3', f3', ?_⟩
    rw [List.map_cons]
    refine (forL_nx (ρ1 := [.val (.str A), .own false (.lst R), .val .non, .val (.str p), .un, .un]) ?_ (due_step (c3 := .un) h1 h2 (by omega))).trans ?_
    · rcases f3 with rfl | ⟨d, rfl⟩ <;> rfl
    · rw [e, List.append_assoc]
      rfl
theorem due_s1 {A : Str} : parS [1, 2] (consP (lstE (nilA)) (consP (cE .non) (nilA))) [.val (.str A), .un, .un, .un, .un, .un] = .nx [.val (.str A), .own false (.lst []), .val .non, .un, .un, .un] := rfl
theorem due_end {A : Str} {R : List D} {c3 : Cell} {eb : Bool} {l : D} (h1 : neD (.lst R) (.lst []) = vB true) (hl : atI R (-1) = some l) (hE : M__law_is_end [.val l] = .ok (.val (.bl eb)) [.val l]) (hlast : R[R.length - 1]? = some l) :
    ifS (andT (valT (binE neD (vE 1) (lstE (nilA)))) (valT (callF M__law_is_end (consA (binE ixD (vE 1) (unE negD (cE (.int 1)))) (nilA))))) (setF 2 (popE 1)) (nxS) [.val (.str A), .own false (.lst R), .val .non, c3, .un, .un] =
      if eb then .nx [.val (.str A), .own false (.lst R.dropLast), .val l, c3, .un, .un] else .nx [.val (.str A), .own false (.lst R), .val .non, c3, .un, .un] := by
  cases eb with
  | true => simp [h1, hl, hE, popE, hlast]
  | false => simp [h1, hl, hE]
theorem due_none {A : Str} {c3 : Cell} : ifS (andT (valT (binE neD (vE 1) (lstE (nilA)))) (valT (callF M__law_is_end (consA (binE ixD (vE 1) (unE negD (cE (.int 1)))) (nilA))))) (setF 2 (popE 1)) (nxS) [.val (.str A), .own false (.lst []), .val .non, c3, .un, .un] = .nx [.val (.str A), .own false (.lst []), .val .non, c3, .un, .un] := by
  have h : neD (.lst []) (.lst []) = vB false := rfl
  simp [h]
theorem due_fin {A t : Str} {R : List D} {E : D} {c3 : Cell} {b : Bool} (it : M__law_is_trick [.val (.tup [.tup R, E])] = .ok (.val (.bl b)) [.val (.tup [.tup R, E])]) (tx : b = true → M__law_text_of [.val (.tup [.tup R, E])] = .ok (.val (.str t)) [.val (.tup [.tup R, E])]) :
    seqS (setF 4 (tupE (consA (bltE tupleD (consA (vE 1) (nilA))) (consA (vE 2) (nilA))))) (retS (ifE (andT (valT (callF M__law_is_trick (consA (vE 4) (nilA)))) (valT (binE eqD (callF M__law_text_of (consA (vE 4) (nilA))) (vE 0)))) (vE 4) (cE .non))) [.val (.str A), .own false (.lst R), .val E, c3, .un, .un] =
      .rt (.val (if (b && decide (t = A)) = true then .tup [.tup R, E] else .non)) [.val (.str A), .own false (.lst R), .val E, c3, .val (.tup [.tup R, E]), .un] := by
  have tp : tupleD [.lst R] = some (.val (.tup R)) := rfl
  cases b with
  | false => simp [it, tp]
  | true =>
    have tx := tx rfl
    by_cases h : t = A
    · subst h
      simp [it, tp, tx, eqD_str]
    · simp [it, tp, tx, eqD_str, h]
theorem due_all {A t : Str} {L R R' : List D} {E : D} {c3 : Cell} {b : Bool} (sp : splitD (.str A) (.str "\n") = some (.new (.lst L))) (lp : forL (gN 3) L__law_due_1 (cutD L (some 1) none) [.val (.str A), .own false (.lst []), .val .non, .un, .un, .un] = .nx [.val (.str A), .own false (.lst R), .val .non, c3, .un, .un])
    (F : ifS (andT (valT (binE neD (vE 1) (lstE (nilA)))) (valT (callF M__law_is_end (consA (binE ixD (vE 1) (unE negD (cE (.int 1)))) (nilA))))) (setF 2 (popE 1)) (nxS) [.val (.str A), .own false (.lst R), .val .non, c3, .un, .un] = .nx [.val (.str A), .own false (.lst R'), .val E, c3, .un, .un])
    (it : M__law_is_trick [.val (.tup [.tup R', E])] = .ok (.val (.bl b)) [.val (.tup [.tup R', E])]) (tx : b = true → M__law_text_of [.val (.tup [.tup R', E])] = .ok (.val (.str t)) [.val (.tup [.tup R', E])]) :
    M__law_due [.val (.str A)] = .ok (.val (if (b && decide (t = A)) = true then .tup [.tup R', E] else .non)) [.val (.str A)] := by
  have F0 : ifS (notT (valT (unE (isiD "str") (vE 0)))) (retS (cE .non)) (nxS) [.val (.str A), .un, .un, .un, .un, .un] = .nx [.val (.str A), .un, .un, .un, .un, .un] := by simp
  have F2 : forS (seqI (slE (mthE splitD (vE 0) (cE (.str "\n"))) (intO (cE (.int 1))) (noO))) (gN 3) (L__law_due_1) [.val (.str A), .own false (.lst []), .val .non, .un, .un, .un] = .nx [.val (.str A), .own false (.lst R), .val .non, c3, .un, .un] := by
    have hi : seqI (slE (mthE splitD (vE 0) (cE (.str "\n"))) (intO (cE (.int 1))) (noO)) [.val (.str A), .own false (.lst []), .val .non, .un, .un, .un] = .ok (cutD L (some 1) none) [.val (.str A), .own false (.lst []), .val .non, .un, .un, .un] := by simp [mthE, sp]
    rw [x_for, hi]
    exact lp
  have all : B__law_due [.val (.str A), .un, .un, .un, .un, .un] = .rt (.val (if (b && decide (t = A)) = true then .tup [.tup R', E] else .non)) [.val (.str A), .own false (.lst R'), .val E, c3, .val (.tup [.tup R', E]), .un] := by
    unfold B__law_due
    rw [seq_nx F0, seq_nx due_s1, seq_nx F2, seq_nx F]
    exact due_fin it tx
  unfold M__law_due
  simp [all]
/-! texts -/
abbrev numS (t : Int) : Str := Str.ofString (toString t)
theorem num_fin : ∀ k : Fin 30, M_item_in [.val (.str (numS ((k : Nat) - 9)))] = .ok (.val (.int ((k : Nat) - 9))) [.val (.str (numS ((k : Nat) - 9)))]
  | ⟨0, _⟩ => by kernel_rfl
  | ⟨1, _⟩ => by kernel_rfl
  | ⟨2, _⟩ => by kernel_rfl
  | ⟨3, _⟩ => by kernel_rfl
  | ⟨4, _⟩ => by kernel_rfl
  | ⟨5, _⟩ => by kernel_rfl
  | ⟨6, _⟩ => by kernel_rfl
  | ⟨7, _⟩ => by kernel_rfl
  | ⟨8, _⟩ => by kernel_rfl
  | ⟨9, _⟩ => by kernel_rfl
  | ⟨10, _⟩ => by kernel_rfl
  | ⟨11, _⟩ => by kernel_rfl
  | ⟨12, _⟩ => by kernel_rfl
  | ⟨13, _⟩ => by kernel_rfl
  | ⟨14, _⟩ => by kernel_rfl
  | ⟨15, _⟩ => by kernel_rfl
  | ⟨16, _⟩ => by kernel_rfl
  | ⟨17, _⟩ => by kernel_rfl
  | ⟨18, _⟩ => by kernel_rfl
  | ⟨19, _⟩ => by kernel_rfl
  | ⟨20, _⟩ => by kernel_rfl
  | ⟨21, _⟩ => by kernel_rfl
  | ⟨22, _⟩ => by kernel_rfl
  | ⟨23, _⟩ => by kernel_rfl
  | ⟨24, _⟩ => by kernel_rfl
  | ⟨25, _⟩ => by kernel_rfl
  | ⟨26, _⟩ => by kernel_rfl
  | ⟨27, _⟩ => by kernel_rfl
  | ⟨28, _⟩ => by kernel_rfl
  | ⟨29, _⟩ => by kernel_rfl
  | ⟨n + 30, h⟩ => absurd h (by omega)
theorem num_len : ∀ k : Fin 30, (numS ((k : Nat) - 9)).length ≤ 3 := by decide +kernel
theorem num_free : ∀ k : Fin 30, 32 ∉ TL.tl (numS ((k : Nat) - 9)) ∧ 10 ∉ TL.tl (numS ((k : Nat) - 9)) := by decide +kernel
theorem num_str : ∀ k : Fin 30, PyData.strOk (numS ((k : Nat) - 9)) = true := by decide +kernel
theorem num_at {P : Int → Prop} (h : ∀ k : Fin 30, P ((k : Nat) - 9)) {t : Int} (h1 : -9 ≤ t) (h2 : t ≤ 20) : P t := by
  have := h ⟨(t + 9).toNat, by omega⟩
  have e : (((t + 9).toNat : Nat) : Int) - 9 = t := by omega
  rwa [e] at this
/-- a word of a line: what it says -/
structure Word (x : Str) (d : D) : Prop where
  item : M_item_in [.val (.str x)] = .ok (.val d) [.val (.str x)]
  str : strD [d] = some (.val (.str x))
  len : x.length ≤ 7
  free : 32 ∉ TL.tl x ∧ 10 ∉ TL.tl x
  ok : PyData.strOk x = true
theorem num_word {t : Int} (h1 : -9 ≤ t) (h2 : t ≤ 20) : Word (numS t) (.int t) where
  item := num_at (P := fun t => M_item_in [.val (.str (numS t))] = .ok (.val (.int t)) [.val (.str (numS t))]) num_fin h1 h2
  str := by
    have : t.natAbs.log2 < 1920 := Nat.lt_of_lt_of_le (log2_lt (k := 10) (by decide) (by omega)) (by decide)
    exact if_pos this
  len := Nat.le_trans (num_at (P := fun t => (numS t).length ≤ 3) num_len h1 h2) (by decide)
  free := num_at (P := fun t => 32 ∉ TL.tl (numS t) ∧ 10 ∉ TL.tl (numS t)) num_free h1 h2
  ok := num_at (P := fun t => PyData.strOk (numS t) = true) num_str h1 h2
theorem thing_word (w : Thing) : Word w.name (.str w.name) where
  item := by cases w <;> rfl
  str := rfl
  len := by cases w <;> decide +kernel
  free := by cases w <;> decide +kernel
  ok := name_ok w
theorem w_add : Word "add" (.str "add") := ⟨rfl, rfl, by decide +kernel, by decide +kernel, by decide +kernel⟩
theorem w_times : Word "times" (.str "times") := ⟨rfl, rfl, by decide +kernel, by decide +kernel, by decide +kernel⟩
theorem w_share : Word "share" (.str "share") := ⟨rfl, rfl, by decide +kernel, by decide +kernel, by decide +kernel⟩
theorem w_root : Word "root" (.str "root") := ⟨rfl, rfl, by decide +kernel, by decide +kernel, by decide +kernel⟩
theorem w_rest : Word "rest" (.str "rest") := ⟨rfl, rfl, by decide +kernel, by decide +kernel, by decide +kernel⟩
/-- a line's words and items -/
inductive Line : List Str → List D → Prop
  | nil : Line [] []
  | cons {x : Str} {d : D} {xs : List Str} {ds : List D} (h : Word x d) (r : Line xs ds) : Line (x :: xs) (d :: ds)
def Stp.ws : Stp → List Str
  | .add t w => ["add", numS t, w.name]
  | .times k => ["times", numS k]
  | .share k => ["share", numS k]
def En.ws : En → List Str
  | .no => []
  | .root => ["root"]
  | .rest k => ["rest", numS k]
def Stp.items : Stp → List D
  | .add t w => [.str "add", .int t, .str w.name]
  | .times k => [.str "times", .int k]
  | .share k => [.str "share", .int k]
theorem Stp.d_eq (s : Stp) : s.d = .tup s.items := by cases s <;> rfl
theorem Stp.line {s : Stp} (h : s.ok) : Line s.ws s.items := by
  cases s with
  | add t w =>
    have h : -9 ≤ t ∧ t ≤ 9 ∧ t ≠ 0 := h
    exact .cons w_add (.cons (num_word h.1 (by omega)) (.cons (thing_word w) .nil))
  | times k =>
    have h : 2 ≤ k ∧ k ≤ 12 := h
    exact .cons w_times (.cons (num_word (by omega) (by omega)) .nil)
  | share k =>
    have h : 2 ≤ k ∧ k ≤ 12 := h
    exact .cons w_share (.cons (num_word (by omega) (by omega)) .nil)
def En.items : En → List D
  | .no => []
  | .root => [.str "root"]
  | .rest k => [.str "rest", .int k]
theorem En.line {e : En} (h : e.ok) : Line e.ws e.items := by
  cases e with
  | no => exact .nil
  | root => exact .cons w_root .nil
  | rest k =>
    have h : 2 ≤ k ∧ k ≤ 20 := h
    exact .cons w_rest (.cons (num_word (by omega) (by omega)) .nil)
theorem Line.len {ws : List Str} {ds : List D} (h : Line ws ds) : ws.length = ds.length := by
  induction h with
  | nil => rfl
  | cons _ _ ih => simp [ih]
theorem Line.sum {ws : List Str} {ds : List D} (h : Line ws ds) : (ws.map (·.length)).sum ≤ 7 * ws.length := by
  induction h with
  | nil => simp
  | cons h _ ih => have := h.len; simp; omega
theorem Line.strs {ws : List Str} {ds : List D} (h : Line ws ds) : ds.map (fun d => match strD [d] with | some (.val d') => d' | _ => .non) = ws.map .str := by
  induction h with
  | nil => rfl
  | cons h _ ih => simp only [List.map_cons, h.str, ih]
theorem asStrs_map : ∀ l : List Str, asStrs (l.map .str) = some l
  | [] => rfl
  | a :: l => by simp [asStrs, asStrs_map l]
/-- a line, put together -/
abbrev lineS (ws : List Str) : Str := Txt.join " " ws
theorem line_of_ok {ws : List Str} {ds : List D} (h : Line ws ds) (hz : ds.length ≤ 100) : M_line_of [.val (.tup ds)] = .ok (.val (.str (lineS ws))) [.val (.tup ds)] := by
  have lc := lc_map (i := 1) (f := bltE strD (consA (vE 1) nilA)) (h := fun d => match strD [d] with | some (.val d') => d' | _ => .non) ds [] [.val (.tup ds), .un] rfl (fun d hd => by
    have : ∃ x, strD [d] = some (.val (.str x)) := by
      clear hz
      induction h with
      | nil => cases hd
      | cons h _ ih =>
        rcases List.mem_cons.mp hd with rfl | hd
        · exact ⟨_, h.str⟩
        · exact ih hd
    obtain ⟨x, e⟩ := this
    simp [e]) (by simp; omega)
  rw [List.nil_append, h.strs] at lc
  have c : (ws.map (·.length)).sum + ws.length * (" " : Str).length ≤ 16777216 := by
    have h1 := h.sum
    have h2 := h.len
    have h3 : (" " : Str).length = 1 := by decide
    rw [h3]
    omega
  have j : joinD (.str " ") (.lst (ws.map .str)) = some (.val (.str (lineS ws))) := by
    show (asStrs (ws.map .str)).bind _ = _
    rw [asStrs_map, Option.bind_some, if_pos c]
  simp [M_line_of, B_line_of, mthE, lc, j]
theorem Line.free {ws : List Str} {ds : List D} (h : Line ws ds) : ∀ x ∈ ws, 32 ∉ TL.tl x ∧ 10 ∉ TL.tl x := by
  induction h with
  | nil => intro x hx; cases hx
  | cons h _ ih => 
    intro x hx
    rcases List.mem_cons.mp hx with rfl | hx
    · exact h.free
    · exact ih x hx
theorem join_len : ∀ (y : Str) (l : List Str), (Str.join y l).length ≤ (l.map (·.length)).sum + l.length * y.length
  | y, [] => by
    have : (Str.join y []).length = 0 := rfl
    omega
  | y, [x] => by
    have : (Str.join y [x]).length = x.length := rfl
    simp [this]
  | y, x :: z :: r => by
    have e : Str.join y (x :: z :: r) = x ++ y ++ Str.join y (z :: r) := rfl
    have := join_len y (z :: r)
    rw [e, Str.length_append, Str.length_append]
    simp only [List.map_cons, List.sum_cons, List.length_cons] at this ⊢
    have m : (r.length + 1 + 1) * y.length = (r.length + 1) * y.length + y.length := by rw [Nat.add_mul (r.length + 1) 1, Nat.one_mul]
    omega
theorem lineS_len {ws : List Str} {ds : List D} (h : Line ws ds) : (lineS ws).length ≤ 8 * ws.length := by
  have h1 := join_len " " ws
  have h2 := h.sum
  have h3 : (" " : Str).length = 1 := by decide
  rw [h3] at h1
  show (Txt.join " " ws).length ≤ _
  rw [TL.join_eq]
  omega
theorem tl_join_mem {c : Nat} : ∀ {y : Str} {l : List Str}, c ∉ TL.tl y → (∀ x ∈ l, c ∉ TL.tl x) → c ∉ TL.tl (Str.join y l)
  | y, [], _, _ => by
    show c ∉ ([] : List Nat)
    simp
  | y, [x], _, h => h x (List.mem_cons_self ..)
  | y, x :: z :: r, hy, h => by
    show c ∉ TL.tl (x ++ y ++ Str.join y (z :: r))
    rw [TL.tl_append, TL.tl_append]
    have h1 := h x (List.mem_cons_self ..)
    have h2 := tl_join_mem (c := c) (y := y) (l := z :: r) hy fun w hw => h w (List.mem_cons_of_mem _ hw)
    simp [h1, hy, h2]
theorem items_in_ok {ws : List Str} {ds : List D} (h : Line ws ds) (hne : ws ≠ []) (hz : ds.length ≤ 100) : M_items_in [.val (.str (lineS ws))] = .ok (.val (.tup ds)) [.val (.str (lineS ws))] := by
  have hl := h.len
  have sp : splitD (.str (lineS ws)) (.str " ") = some (.new (.lst (ws.map .str))) := by
    have c1 : ((" " : Str).length == 0) = false := by decide
    have c2 : (lineS ws).length + 2 ≤ sizeLine := by have := lineS_len h; rw [x_size]; omega
    have e : Txt.split (lineS ws) " " = ws := TL.split_join (y := " ") (s := 32) (S := []) rfl (by decide +kernel) hne fun p hp => (h.free p hp).1
    show (if _ then some (Wv.new (.lst ((Txt.split (lineS ws) " ").map .str))) else none) = _
    rw [if_pos ⟨c1, c2⟩, e]
  have mem : ∀ d ∈ ws.map D.str, ∃ x e, d = .str x ∧ M_item_in [.val (.str x)] = .ok (.val e) [.val (.str x)] ∧ (match M_item_in [.val d] with | .ok (.val e) _ => e | _ => .non) = e := fun d hd => by
    obtain ⟨x, hx, rfl⟩ := List.mem_map.mp hd
    have : ∃ e, M_item_in [.val (.str x)] = .ok (.val e) [.val (.str x)] := by
      clear sp hd hne hz hl
      induction h with
      | nil => cases hx
      | cons h _ ih =>
        rcases List.mem_cons.mp hx with rfl | hx
        · exact ⟨_, h.item⟩
        · exact ih hx
    obtain ⟨e, he⟩ := this
    exact ⟨x, e, rfl, he, by rw [he]⟩
  have lc := lc_map (i := 1) (f := callF M_item_in (consA (vE 1) nilA)) (h := fun d => match M_item_in [.val d] with | .ok (.val e) _ => e | _ => .non) (ws.map .str) [] [.val (.str (lineS ws)), .un] rfl (fun d hd => by
    obtain ⟨x, e, rfl, he, h2⟩ := mem d hd
    simp [he]) (by simp; omega)
  have im : (ws.map D.str).map (fun d => match M_item_in [.val d] with | .ok (.val e) _ => e | _ => .non) = ds := by
    clear lc mem sp hne hz hl
    induction h with
    | nil => rfl
    | cons h _ ih => simp only [List.map_cons, h.item, ih]
  rw [List.nil_append, im] at lc
  have tp : tupleD [.lst ds] = some (.val (.tup ds)) := rfl
  simp [M_items_in, B_items_in, mthE, sp, lc, tp]
theorem strOk_append {x y : Str} (h1 : PyData.strOk x = true) (h2 : PyData.strOk y = true) : PyData.strOk (x ++ y) = true := by
  unfold PyData.strOk at h1 h2 ⊢
  rw [Str.cps_append, Array.all_append, h1, h2]
  rfl
theorem join_ok {y : Str} (hy : PyData.strOk y = true) : ∀ l : List Str, (∀ x ∈ l, PyData.strOk x = true) → PyData.strOk (Str.join y l) = true
  | [], _ => (by decide +kernel : PyData.strOk ⟨#[]⟩ = true)
  | [x], h => h x (List.mem_cons_self ..)
  | x :: z :: r, h => by
    show PyData.strOk (x ++ y ++ Str.join y (z :: r)) = true
    exact strOk_append (strOk_append (h x (List.mem_cons_self ..)) hy) (join_ok hy (z :: r) fun w hw => h w (List.mem_cons_of_mem _ hw))
theorem Line.oks {ws : List Str} {ds : List D} (h : Line ws ds) : ∀ x ∈ ws, PyData.strOk x = true := by
  induction h with
  | nil => intro x hx; cases hx
  | cons h _ ih =>
    intro x hx
    rcases List.mem_cons.mp hx with rfl | hx
    · exact h.ok
    · exact ih x hx
theorem line_good {ws : List Str} {ds : List D} (h : Line ws ds) (hz : ws.length ≤ 3) : (lineS ws).length ≤ 24 ∧ 10 ∉ TL.tl (lineS ws) ∧ PyData.strOk (lineS ws) = true := by
  refine ⟨by have := lineS_len h; omega, ?_, ?_⟩
  · rw [show lineS ws = Str.join " " ws from TL.join_eq _ _]
    exact tl_join_mem (by decide +kernel) fun x hx => (h.free x hx).2
  · rw [show lineS ws = Str.join " " ws from TL.join_eq _ _]
    exact join_ok (by decide +kernel) ws h.oks
theorem Stp.ws_len (s : Stp) : s.ws.length ≤ 3 ∧ s.ws ≠ [] ∧ s.items.length ≤ 3 := by cases s <;> simp [Stp.ws, Stp.items]
theorem En.ws_len (e : En) : e.ws.length ≤ 3 ∧ e.items.length ≤ 3 := by cases e <;> simp [En.ws, En.items]
/-- the end's line, if it has one -/
def endL (e : En) : List Str := match e with | .no => [] | e => [lineS e.ws]
theorem lines_good {ss : List Stp} {e : En} (ht : OkT ss e) : ∀ x ∈ (("think" : Str) :: (ss.map (fun s => lineS s.ws) ++ endL e)), x.length ≤ 24 ∧ 10 ∉ TL.tl x ∧ PyData.strOk x = true := by
  intro x hx
  rcases List.mem_cons.mp hx with rfl | hx
  · decide +kernel
  · rcases List.mem_append.mp hx with hx | hx
    · obtain ⟨s, hs, rfl⟩ := List.mem_map.mp hx
      exact line_good (Stp.line (ht.st s hs)) s.ws_len.1
    · have : x = lineS e.ws := by cases e <;> simp [endL] at hx <;> exact hx
      subst this
      exact line_good (En.line ht.en) e.ws_len.1
abbrev linesS (ss : List Stp) (e : En) : List Str := "think" :: (ss.map (fun s => lineS s.ws) ++ endL e)
abbrev textS (ss : List Stp) (e : En) : Str := Txt.join "\n" (linesS ss e)
theorem linesS_len {ss : List Stp} {e : En} (ht : OkT ss e) : (linesS ss e).length ≤ 10 := by
  have := ht.len
  cases e <;> simp [endL] <;> omega
theorem sum_le {l : List Nat} {b : Nat} (h : ∀ x ∈ l, x ≤ b) : l.sum ≤ b * l.length := by
  induction l with
  | nil => simp
  | cons a l ih =>
    have h1 := h a (List.mem_cons_self ..)
    have h2 := ih fun x hx => h x (List.mem_cons_of_mem _ hx)
    simp only [List.sum_cons, List.length_cons]
    have : b * (l.length + 1) = b * l.length + b := by rw [Nat.mul_add, Nat.mul_one]
    omega
theorem lines_sum {ss : List Stp} {e : En} (ht : OkT ss e) : ((linesS ss e).map (·.length)).sum ≤ 240 := by
  have h1 := sum_le (l := (linesS ss e).map (·.length)) (b := 24) fun x hx => by
    obtain ⟨y, hy, rfl⟩ := List.mem_map.mp hx
    exact (lines_good ht y hy).1
  have h2 := linesS_len ht
  rw [List.length_map] at h1
  have := Nat.mul_le_mul_left 24 h2
  omega
theorem join_n {ss : List Stp} {e : En} (ht : OkT ss e) : joinD (.str "\n") (.lst ((linesS ss e).map .str)) = some (.val (.str (textS ss e))) := by
  show (asStrs ((linesS ss e).map .str)).bind _ = _
  have h1 := lines_sum ht
  have h2 := linesS_len ht
  have h3 : ("\n" : Str).length = 1 := by decide
  have c : ((linesS ss e).map (·.length)).sum + (linesS ss e).length * ("\n" : Str).length ≤ 16777216 := by rw [h3]; omega
  rw [asStrs_map, Option.bind_some, if_pos c]
theorem textS_len {ss : List Stp} {e : En} (ht : OkT ss e) : (textS ss e).length ≤ 260 := by
  have h1 := join_len "\n" (linesS ss e)
  have h2 := lines_sum ht
  have h3 := linesS_len ht
  have h4 : ("\n" : Str).length = 1 := by decide
  rw [h4] at h1
  show (Txt.join "\n" (linesS ss e)).length ≤ _
  rw [TL.join_eq]
  omega
theorem textS_ok {ss : List Stp} {e : En} (ht : OkT ss e) : PyData.strOk (textS ss e) = true := by
  rw [show textS ss e = Str.join "\n" (linesS ss e) from TL.join_eq _ _]
  exact join_ok (by decide +kernel) _ fun x hx => (lines_good ht x hx).2.2
theorem text_of_ok {ss : List Stp} {e : En} (ht : OkT ss e) : M_text_of [.val (trk ss e)] = .ok (.val (.str (textS ss e))) [.val (trk ss e)] := by
  have hl := ht.len
  have lc := lc_map (i := 2) (f := callF M_line_of (consA (vE 2) nilA)) (h := fun d => match M_line_of [.val d] with | .ok (.val e) _ => e | _ => .non) (ss.map Stp.d) [] [.val (trk ss e), .un, .un] rfl (fun d hd => by
    obtain ⟨s, hs, rfl⟩ := List.mem_map.mp hd
    have := line_of_ok (Stp.line (ht.st s hs)) (by have := s.ws_len; omega)
    rw [← Stp.d_eq] at this
    simp [this]) (by simp; omega)
  have im : (ss.map Stp.d).map (fun d => match M_line_of [.val d] with | .ok (.val e) _ => e | _ => .non) = (ss.map (fun s => lineS s.ws)).map .str := by
    rw [List.map_map, List.map_map]
    refine List.map_congr_left fun s hs => ?_
    have := line_of_ok (Stp.line (ht.st s hs)) (by have := s.ws_len; omega)
    rw [← Stp.d_eq] at this
    simp [this]
  rw [List.nil_append, im] at lc
  have jn := join_n ht
  have l1 : 1 + ss.length ≤ 16777216 := by omega
  have l2 : ss.length + 1 ≤ 16777216 := by omega
  have l3 : ss.length + 1 + 1 ≤ 16777216 := by omega
  cases e with
  | no =>
    simp [endL] at jn
    simp at lc
    simp [M_text_of, B_text_of, mthE, lc, l1, l2, En.d, jn]
  | root =>
    have := line_of_ok (En.line ht.en) (by have := En.root.ws_len; omega)
    simp [endL] at jn
    simp at lc
    simp [En.items] at this
    simp [M_text_of, B_text_of, mthE, lc, l1, l2, l3, En.d, this, jn]
  | rest k =>
    have := line_of_ok (En.line ht.en) (by have := (En.rest k).ws_len; omega)
    simp [endL] at jn
    simp at lc
    simp [En.items] at this
    simp [M_text_of, B_text_of, mthE, lc, l1, l2, l3, En.d, this, jn]
def glue (y : Str) (f : Str) (l : List Str) : Str := l.foldl (fun a w => a ++ y ++ w) f
theorem glue_app (y a : Str) : ∀ (l : List Str) (b : Str), glue y (a ++ b) l = a ++ glue y b l
  | [], b => rfl
  | w :: l, b => by
    show glue y (a ++ b ++ y ++ w) l = a ++ glue y (b ++ y ++ w) l
    rw [← glue_app y a l, Str.append_assoc, Str.append_assoc, Str.append_assoc]
theorem join_glue (y : Str) : ∀ (l : List Str) (x : Str), Str.join y (x :: l) = glue y x l
  | [], x => rfl
  | z :: r, x => by
    show x ++ y ++ Str.join y (z :: r) = glue y (x ++ y ++ z) r
    rw [join_glue y r z, ← glue_app]
theorem glue_len (y : Str) : ∀ (l : List Str) (f : Str), (glue y f l).length ≤ f.length + ((l.map (·.length)).sum + l.length * y.length)
  | [], f => Nat.le_add_right _ _
  | w :: l, f => by
    have := glue_len y l (f ++ y ++ w)
    rw [Str.length_append, Str.length_append] at this
    show (glue y (f ++ y ++ w) l).length ≤ _
    simp only [List.map_cons, List.sum_cons, List.length_cons]
    have m : (l.length + 1) * y.length = l.length * y.length + y.length := by rw [Nat.add_mul, Nat.one_mul]
    omega
theorem sp1 : (" " : Str).length = 1 := by decide
theorem nl1 : ("\n" : Str).length = 1 := by decide
theorem lt_inner {x y : D} : ∀ {ws : List Str} {ds : List D} (_ : Line ws ds) (f : Str) (c : Cell), f.length + 8 * ws.length ≤ 100000 → (c = .un ∨ ∃ d, c = .val d) →
    ∃ c', (c' = .un ∨ ∃ d, c' = .val d) ∧ forL (gN 3) L__law_text_of_1 ds [.val x, .val (.str f), .val y, c] = .nx [.val x, .val (.str (glue " " f ws)), .val y, c']
  | _, _, .nil, f, c, _, hc => ⟨c, hc, by simp [glue]⟩
  | _, _, @Line.cons w d ws ds h r, f, c, hl, hc => by
    have hw := h.len
    simp only [List.length_cons] at hl
    obtain ⟨c', q, e⟩ := lt_inner (x := x) (y := y) r (f ++ " " ++ w) (.val d) (by rw [Str.length_append, Str.length_append, sp1]; omega) (.inr ⟨_, rfl⟩)
    refine ⟨c', q, ?_⟩
    rw [x_forL1]
    have l1 : f.length + (" " : Str).length ≤ 16777216 := by rw [sp1]; omega
    have l2 : f.length + (" " : Str).length + w.length ≤ 16777216 := by rw [sp1]; omega
    have l3 : (f ++ " ").length + w.length ≤ 16777216 := by rw [Str.length_append]; exact l2
    have s := h.str
    have e' : forL (gN 3) L__law_text_of_1 ds [.val x, .val (.str (f ++ " " ++ w)), .val y, .val d] = .nx [.val x, .val (.str (glue " " f (w :: ws))), .val y, c'] := e
    rcases hc with rfl | ⟨d', rfl⟩ <;> simp [L__law_text_of_1, s, l1, l3, e']
theorem lt_outer {x : D} : ∀ (ls : List (List Str × List D)) (f : Str) (c2 c3 : Cell), (∀ l ∈ ls, Line l.1 l.2 ∧ l.1 ≠ [] ∧ l.1.length ≤ 3) → f.length + 30 * ls.length ≤ 10000 → (c2 = .un ∨ ∃ d, c2 = .val d) → (c3 = .un ∨ ∃ d, c3 = .val d) →
    ∃ c2' c3', forL (gN 2) L__law_text_of_2 (ls.map fun l => .tup l.2) [.val x, .val (.str f), c2, c3] = .nx [.val x, .val (.str (glue "\n" f (ls.map fun l => lineS l.1))), c2', c3']
  | [], f, c2, c3, _, _, _, _ => ⟨c2, c3, by simp [glue]⟩
  | (ws, ds) :: ls, f, c2, c3, h, hl, h2, h3 => by
    obtain ⟨hline, hne, h3w⟩ := h (ws, ds) (List.mem_cons_self ..)
    simp only [List.length_cons] at hl
    cases hline with
    | nil => exact absurd rfl hne
    | @cons w d ws ds hw r =>
      have lw := hw.len
      simp only [List.length_cons] at h3w
      obtain ⟨c', q, e1⟩ := lt_inner (x := x) (y := .tup (d :: ds)) r (f ++ "\n" ++ w) c3 (by rw [Str.length_append, Str.length_append, nl1]; omega) h3
      have el : glue " " (f ++ "\n" ++ w) ws = f ++ "\n" ++ lineS (w :: ws) := by
        rw [glue_app, ← join_glue, ← TL.join_eq]
      have g := lineS_len (.cons hw r)
      simp only [List.length_cons] at g
      obtain ⟨c2', c3', e2⟩ := lt_outer (x := x) ls (f ++ "\n" ++ lineS (w :: ws)) (.val (.tup (d :: ds))) c' (fun l hm => h l (List.mem_cons_of_mem _ hm)) (by rw [Str.length_append, Str.length_append, nl1]; omega) (.inr ⟨_, rfl⟩) q
      refine ⟨c2', c3', ?_⟩
      rw [List.map_cons, x_forL1]
      have l1 : f.length + ("\n" : Str).length ≤ 16777216 := by rw [nl1]; omega
      have l3 : (f ++ "\n").length + w.length ≤ 16777216 := by rw [Str.length_append, nl1]; omega
      have s := hw.str
      have ct : cutD (d :: ds) (some 1) none = ds := x_cutFrom (k := 1)
      rw [el] at e1
      have e2' : forL (gN 2) L__law_text_of_2 (ls.map fun l => .tup l.2) [.val x, .val (.str (f ++ "\n" ++ lineS (w :: ws))), .val (.tup (d :: ds)), c'] = .nx [.val x, .val (.str (glue "\n" f ((w :: ws, d :: ds) :: ls |>.map fun l => lineS l.1))), c2', c3'] := e2
      rcases h2 with rfl | ⟨d2, rfl⟩ <;> simp [L__law_text_of_2, s, l1, l3, ct, e1] <;> simpa using e2'
def En.ls (e : En) : List (List Str × List D) := match e with | .no => [] | e => [(e.ws, e.items)]
theorem law_text_ok {ss : List Stp} {e : En} (ht : OkT ss e) : M__law_text_of [.val (trk ss e)] = .ok (.val (.str (textS ss e))) [.val (trk ss e)] := by
  have hl := ht.len
  obtain ⟨c2, c3, eq⟩ := lt_outer (x := trk ss e) (ss.map (fun s => (s.ws, s.items)) ++ e.ls) "think" .un .un (fun l hm => by
    rcases List.mem_append.mp hm with hm | hm
    · obtain ⟨s, hs, rfl⟩ := List.mem_map.mp hm
      exact ⟨Stp.line (ht.st s hs), s.ws_len.2.1, s.ws_len.1⟩
    · have q : l = (e.ws, e.items) ∧ e ≠ .no := by cases e <;> simp [En.ls] at hm <;> simp [hm]
      obtain ⟨rfl, hn⟩ := q
      exact ⟨En.line ht.en, by cases e <;> simp [En.ws] at hn ⊢, e.ws_len.1⟩) (by
    have h5 : ("think" : Str).length = 5 := by decide
    rw [h5]
    cases e <;> simp [En.ls] <;> omega) (.inl rfl) (.inl rfl)
  have tx : glue "\n" "think" ((ss.map (fun s => (s.ws, s.items)) ++ e.ls).map fun l => lineS l.1) = textS ss e := by
    rw [← join_glue, ← TL.join_eq, List.map_append, List.map_map]
    cases e <;> rfl
  rw [tx] at eq
  have l1 : ss.length + 1 ≤ 16777216 := by omega
  have l0 : ss.length ≤ 16777216 := by omega
  have mp : (ss.map (fun s => (s.ws, s.items))).map (fun l : List Str × List D => D.tup l.2) = ss.map Stp.d := by
    rw [List.map_map]
    exact List.map_congr_left fun s _ => (Stp.d_eq s).symm
  rw [List.map_append, mp] at eq
  cases e with
  | no =>
    simp [En.ls, En.d] at eq
    simp [M__law_text_of, B__law_text_of, En.d, notND, eq, l0]
  | root =>
    simp [En.ls, En.d, En.items] at eq
    simp [M__law_text_of, B__law_text_of, En.d, notND, eq, l1]
  | rest k =>
    simp [En.ls, En.d, En.items] at eq
    simp [M__law_text_of, B__law_text_of, En.d, notND, eq, l1]
def oD : Option (List Stp × En) → D
  | some p => trk p.1 p.2
  | none => .non
theorem both_fin {x : Str} {T : D} {b : Bool} (bt : b = true → ∃ ss e, OkT ss e ∧ T = trk ss e) : ∃ (t : Str) (o : Option (List Stp × En)), (b = true → M_text_of [.val T] = .ok (.val (.str t)) [.val T]) ∧ (b = true → M__law_text_of [.val T] = .ok (.val (.str t)) [.val T]) ∧
    (∀ p, o = some p → OkT p.1 p.2) ∧ (b && decide (t = x)) = o.isSome ∧ (o.isSome = true → T = oD o) := by
  cases b with
  | false => exact ⟨x, none, fun z => Bool.noConfusion z, fun z => Bool.noConfusion z, fun p z => (nomatch z), rfl, fun z => Bool.noConfusion z⟩
  | true =>
    obtain ⟨ss, e, ht, rfl⟩ := bt rfl
    by_cases h : textS ss e = x
    · exact ⟨textS ss e, some (ss, e), fun _ => text_of_ok ht, fun _ => law_text_ok ht, fun p z => by injection z with z; subst z; exact ht, by rw [decide_eq_true h]; rfl, fun _ => rfl⟩
    · exact ⟨textS ss e, none, fun _ => text_of_ok ht, fun _ => law_text_ok ht, fun p z => (nomatch z), by rw [decide_eq_false h]; rfl, fun z => Bool.noConfusion z⟩
/-- what both readers say of a text -/
structure Read (x : Str) (o : Option (List Stp × En)) : Prop where
  ok : ∀ p, o = some p → OkT p.1 p.2
  prog : M_read_trick [.val (.str x)] = if o.isSome = true then .ok (.val (oD o)) [.val (.str x)] else .ex ⟨"NoText", none⟩ [.val (.str x)]
  due : M__law_due [.val (.str x)] = .ok (.val (oD o)) [.val (.str x)]
theorem oD_none {o : Option (List Stp × En)} (h : o.isSome = false) : oD o = .non := by
  cases o with
  | none => rfl
  | some p => cases h
theorem read_of {x : Str} {T : D} {b : Bool} (bt : b = true → ∃ ss e, OkT ss e ∧ T = trk ss e)
    (hp : ∀ t, (b = true → M_text_of [.val T] = .ok (.val (.str t)) [.val T]) → M_read_trick [.val (.str x)] = if (b && decide (t = x)) = true then .ok (.val T) [.val (.str x)] else .ex ⟨"NoText", none⟩ [.val (.str x)])
    (hd : ∀ t, (b = true → M__law_text_of [.val T] = .ok (.val (.str t)) [.val T]) → M__law_due [.val (.str x)] = .ok (.val (if (b && decide (t = x)) = true then T else .non)) [.val (.str x)]) : ∃ o, Read x o := by
  obtain ⟨t, o, h1, h2, h3, h4, h5⟩ := both_fin (x := x) bt
  refine ⟨o, h3, ?_, ?_⟩
  · rw [hp t h1, h4]
    cases ho : o.isSome with
    | false => rfl
    | true => rw [h5 ho]
  · rw [hd t h2, h4]
    cases ho : o.isSome with
    | false => rw [oD_none ho]; rfl
    | true => rw [h5 ho]; rfl
theorem read_both {x : Str} (ha : Asc x) (h : x.length ≤ 1000000) : ∃ o, Read x o := by
  have k := cuts_at (c := 10) (x := x)
  have sp := split_nl h
  have ti := trick_in_S ha h
  have rr := rows_row ha
  have rl := rows_len (x := x)
  have ct : cutD ((cutAt 10 x).map .str) (some ((1 : Nat) : Int)) none = ((cutAt 10 x).drop 1).map .str := by rw [x_cutFrom, List.map_drop]
  rw [show ((1 : Nat) : Int) = 1 from rfl] at ct
  obtain ⟨c3, f3, lp⟩ := due_loop (A := x) ((cutAt 10 x).drop 1) [] .un (.inl rfl) (fun p hp => by
    have := k.part p (List.mem_of_mem_drop hp)
    exact ⟨this.2 ha, by omega⟩) (by have := k.len; rw [List.length_drop]; show 0 + _ ≤ _; omega)
  have er : ((cutAt 10 x).drop 1).map (fun p => D.tup (itemsOf p)) = tupsD (rowsOf x) := by
    unfold rowsOf tupsD
    rw [List.map_map]
    rfl
  rw [List.nil_append, er, ← ct] at lp
  have nr := ne_rows rr
  have e0 : M_is_end [.val .non] = .ok (.val (.bl true)) [.val .non] := is_end_ok (e := .no) trivial
  have l0 : M__law_is_end [.val .non] = .ok (.val (.bl true)) [.val .non] := lie_ok (e := .no) trivial
  generalize rowsOf x = rs at *
  generalize (cutAt 10 x).map D.str = L at *
  rcases List.eq_nil_or_concat rs with rfl | ⟨q, r, rfl⟩
  · obtain ⟨b, t1, t2, t3, t4⟩ := tr_both (rs := []) rr (by simp) e0 l0 (fun _ => ⟨.no, trivial, rfl⟩)
    exact read_of (b := b) t3 (fun t tx => read_frame sp ti t1 tx) (fun t tx => due_all sp lp due_none t2 tx)
  · rw [List.concat_eq_append] at *
    have hr := rr r (by simp)
    have hq : ∀ s ∈ q, Row s := fun s hs => rr s (by simp [hs])
    have ql : q.length ≤ 1000000 := by simp at rl; omega
    have al : (q ++ [r]).length ≤ 1000000 := by omega
    have tq : tupsD (q ++ [r]) = tupsD q ++ [.tup r] := List.map_append
    have la : atI (tupsD (q ++ [r])) (-1) = some (.tup r) := by rw [tq]; exact at_last
    have ll : (tupsD (q ++ [r]))[(tupsD (q ++ [r])).length - 1]? = some (.tup r) := by rw [tq]; simp
    have dl : (tupsD (q ++ [r])).dropLast = tupsD q := by rw [tq]; exact List.dropLast_concat
    have nt : neD (.lst (tupsD (q ++ [r]))) (.lst []) = vB true := by rw [nr]; simp
    have de := due_end (A := x) (c3 := c3) nt la (le_ok hr) ll
    have tI : trickIn (q ++ [r]) = if lastE r then .tup [.tup (tupsD q), .tup r] else .tup [.tup (tupsD (q ++ [r])), .non] := by
      unfold trickIn
      rw [List.getLast?_concat]
      simp only [List.dropLast_concat]
    rw [tI] at ti
    cases hb : endB r with
    | true =>
      have hl := end_last hb
      rw [hl] at ti
      rw [hb, dl] at de
      have pe := pe_ok hr
      have le := le_ok hr
      rw [hb] at pe le
      obtain ⟨b, t1, t2, t3, t4⟩ := tr_both hq ql pe le (fun _ => end_of hb)
      exact read_of (b := b) t3 (fun t tx => read_frame sp ti t1 tx) (fun t tx => due_all sp lp de t2 tx)
    | false =>
      rw [hb] at de
      obtain ⟨b, t1, t2, t3, t4⟩ := tr_both rr al e0 l0 (fun _ => ⟨.no, trivial, rfl⟩)
      cases hl : lastE r with
      | false =>
        rw [hl] at ti
        exact read_of (b := b) t3 (fun t tx => read_frame sp ti t1 tx) (fun t tx => due_all sp lp de t2 tx)
      | true =>
        rw [hl] at ti
        have bf : b = false := by
          cases b with
          | false => rfl
          | true =>
            have z := (t4 rfl).1
            rw [List.all_eq_true] at z
            have := z r (by simp)
            rw [last_stp hl] at this
            exact this.symm
        subst bf
        have pe := pe_ok hr
        rw [hb] at pe
        have t1' := isb_frame0 (l := tupsD q) pe
        refine ⟨none, fun p z => (nomatch z), ?_, ?_⟩
        · exact read_frame (t := x) sp ti t1' (fun z => Bool.noConfusion z)
        · exact due_all (t := x) sp lp de t2 (fun z => Bool.noConfusion z)
/-! rows of words: how much they weigh -/
def Wt (l : List Str) : Nat := (l.map (·.length)).sum + l.length
theorem wt_app (a b : List Str) : Wt (a ++ b) = Wt a + Wt b := by
  unfold Wt
  rw [List.map_append, List.sum_append, List.length_append]
  omega
theorem wt_cut (l : List Str) (n : Nat) : Wt (l.take n) + Wt (l.drop n) = Wt l := by
  rw [← wt_app, List.take_append_drop]
theorem wt_one (x : Str) : Wt [x] = x.length + 1 := by simp [Wt]
theorem wt_mid (l : List Str) (i n : Nat) : Wt ((l.drop i).take n) ≤ Wt l := by
  have h1 := wt_cut l i
  have h2 := wt_cut (l.drop i) n
  omega
theorem wt_rev (l : List Str) : Wt l.reverse = Wt l := by
  unfold Wt
  rw [List.map_reverse, List.sum_reverse, List.length_reverse]
theorem len_wt (l : List Str) : l.length ≤ Wt l := by unfold Wt; omega
theorem join_wt (c : Nat) (l : List Str) : (Txt.join (SX.S [c]) l).length ≤ Wt l := by
  have := join_len (SX.S [c]) l
  have e : (SX.S [c]).length = 1 := by rw [len_S]; rfl
  rw [e, Nat.mul_one] at this
  rw [TL.join_eq]
  unfold Wt
  exact this
theorem asc_app {x y : Str} (h1 : Asc x) (h2 : Asc y) : Asc (x ++ y) := fun c hc => by
  have e : (x ++ y).cps.toList = x.cps.toList ++ y.cps.toList := TL.tl_append x y
  rw [e] at hc
  rcases List.mem_append.mp hc with h | h
  · exact h1 c h
  · exact h2 c h
theorem asc_join {y : Str} (hy : Asc y) : ∀ l : List Str, (∀ x ∈ l, Asc x) → Asc (Str.join y l)
  | [], _ => fun c hc => (List.not_mem_nil hc).elim
  | [x], h => h x (List.mem_cons_self ..)
  | x :: z :: r, h => by
    show Asc (x ++ y ++ Str.join y (z :: r))
    exact asc_app (asc_app (h x (List.mem_cons_self ..)) hy) (asc_join hy (z :: r) fun w hw => h w (List.mem_cons_of_mem _ hw))
theorem asc_joinS {c : Nat} (hc : c < 128) {l : List Str} (h : ∀ x ∈ l, Asc x) : Asc (Txt.join (SX.S [c]) l) := by
  rw [TL.join_eq]
  exact asc_join (asc_S fun a ha => by rw [List.mem_singleton.mp ha]; exact hc) l h
theorem join_D {c : Nat} {l : List Str} (h : Wt l ≤ 1000000) : joinD (.str (SX.S [c])) (.lst (l.map .str)) = some (.val (.str (Txt.join (SX.S [c]) l))) := by
  show (asStrs (l.map .str)).bind _ = _
  have e : (SX.S [c]).length = 1 := by rw [len_S]; rfl
  rw [asStrs_map, Option.bind_some, e, if_pos (by unfold Wt at h; omega)]
def ascB (x : Str) : Bool := x.cps.toList.all (fun c => decide (c < 128))
theorem asc_b {x : Str} (h : ascB x = true) : Asc x := fun c hc => by
  unfold ascB at h
  rw [List.all_eq_true] at h
  exact of_decide_eq_true (h c hc)
theorem asc_bs {l : List Str} (h : l.all ascB = true) : ∀ x ∈ l, Asc x := fun x hx => by
  rw [List.all_eq_true] at h
  exact asc_b (h x hx)
theorem len_le {l : List Str} {n : Nat} (h : l.all (fun x => decide (x.length ≤ n)) = true) : ∀ x ∈ l, x.length ≤ n := fun x hx => by
  rw [List.all_eq_true] at h
  exact of_decide_eq_true (h x hx)
/-! the steps of a spoiling -/
theorem par2 {i j : Nat} {f g : Ev} {ρ ρ1 ρ2 : Rho} {w1 w2 : Wv} (h1 : f ρ = .ok w1 ρ1) (h2 : g ρ1 = .ok w2 ρ2) : parS [i, j] (consP f (consP g nilA)) ρ = toNx (setPs [i, j] [w1, w2] ρ2) := by
  unfold parS consP nilA
  simp only [h1, h2]
section
variable {l l1 l2 l3 : List D} {x : Str} {a b : Nat}
theorem sp_1 (hl : lenD [.str x] = vI (x.length : Nat)) (e1 : ∀ p, M__law_grab [.own p (.lst l), .val (.int ((x.length : Nat) + 1))] = .ok (.val (.int a)) [.own p (.lst l1), .val (.int ((x.length : Nat) + 1))]) (e2 : ∀ p, M__law_grab [.own p (.lst l1), .val (.int 8)] = .ok (.val (.int b)) [.own p (.lst l2), .val (.int 8)]) :
    parS [2, 3] (consP (callF M__law_grab (consA (vE 0) (consA (binE addD (bltE lenD (consA (vE 1) (nilA))) (cE (.int 1))) (nilA)))) (consP (callF M__law_grab (consA (vE 0) (consA (cE (.int 8)) (nilA)))) (nilA))) [.own true (.lst l), .val (.str x), .un, .un, .un, .un, .un, .un, .un, .un, .un, .un] = .nx [.own true (.lst l2), .val (.str x), .val (.int a), .val (.int b), .un, .un, .un, .un, .un, .un, .un, .un] := by
  have h1 : callF M__law_grab (consA (vE 0) (consA (binE addD (bltE lenD (consA (vE 1) (nilA))) (cE (.int 1))) (nilA))) [.own true (.lst l), .val (.str x), .un, .un, .un, .un, .un, .un, .un, .un, .un, .un] = .ok (.val (.int a)) [.own true (.lst l1), .val (.str x), .un, .un, .un, .un, .un, .un, .un, .un, .un, .un] := by simp [hl, e1]
  have h2 : callF M__law_grab (consA (vE 0) (consA (cE (.int 8)) (nilA))) [.own true (.lst l1), .val (.str x), .un, .un, .un, .un, .un, .un, .un, .un, .un, .un] = .ok (.val (.int b)) [.own true (.lst l2), .val (.str x), .un, .un, .un, .un, .un, .un, .un, .un, .un, .un] := by simp [e2]
  rw [par2 h1 h2]
  rfl
def putL : List Str := "1" :: " " :: "\n" :: "add" :: " one" :: "\ntimes 2" :: "0" :: "9" :: "Z" :: "-" :: " 2" :: "root" :: "\nroot" :: []
theorem sp_2n {B : Int} (hb : B ≠ 0) : I__law_spoil_1 [.own true (.lst l), .val (.str x), .val (.int a), .val (.int B), .un, .un, .un, .un, .un, .un, .un, .un] = .nx [.own true (.lst l), .val (.str x), .val (.int a), .val (.int B), .un, .un, .un, .un, .un, .un, .un, .un] := by
  simp [I__law_spoil_1, eqD_int, hb]
theorem sp_2 {u v w : Str} (h1 : slD (.str x) none (some (a : Int)) = some (.val (.str u))) (h2 : slD (.str x) (some (a : Int)) none = some (.val (.str v))) (hz : u.length + w.length + v.length ≤ 1000000) (e : ∀ p, M__law_any [.own p (.lst l), .val (.lst (putL.map .str))] = .ok (.val (.str w)) [.own p (.lst l1), .val (.lst (putL.map .str))]) :
    I__law_spoil_1 [.own true (.lst l), .val (.str x), .val (.int a), .val (.int 0), .un, .un, .un, .un, .un, .un, .un, .un] = .rt (.val (.str (u ++ w ++ v))) [.own true (.lst l1), .val (.str x), .val (.int a), .val (.int 0), .val (.lst (putL.map .str)), .un, .un, .un, .un, .un, .un, .un] := by
  have z1 : u.length + w.length ≤ 16777216 := by omega
  have z2 : (u ++ w).length + v.length ≤ 16777216 := by rw [Str.length_append]; omega
  have z3 : u.length + w.length + v.length ≤ 16777216 := by omega
  simp [putL] at e
  simp [I__law_spoil_1, eqD_int, h1, h2, e, z1, z2, z3, putL]
theorem sp_3n {B : Int} (hb : B ≠ 1) : ifS (valT (binE eqD (vE 3) (cE (.int 1)))) (retS (binE addD (slE (vE 1) (noO) (intO (vE 2))) (slE (vE 1) (intO (binE addD (binE addD (vE 2) (cE (.int 1))) (callF M__law_grab (consA (vE 0) (consA (cE (.int 2)) (nilA)))))) (noO)))) (nxS) [.own true (.lst l), .val (.str x), .val (.int a), .val (.int B), .un, .un, .un, .un, .un, .un, .un, .un] = .nx [.own true (.lst l), .val (.str x), .val (.int a), .val (.int B), .un, .un, .un, .un, .un, .un, .un, .un] := by
  simp [eqD_int, hb]
theorem sp_3 {u v : Str} (h1 : slD (.str x) none (some (a : Int)) = some (.val (.str u))) (h2 : slD (.str x) (some ((a : Int) + 1 + (b : Int))) none = some (.val (.str v))) (hz : u.length + v.length ≤ 1000000) (e : ∀ p, M__law_grab [.own p (.lst l), .val (.int 2)] = .ok (.val (.int b)) [.own p (.lst l1), .val (.int 2)]) :
    ifS (valT (binE eqD (vE 3) (cE (.int 1)))) (retS (binE addD (slE (vE 1) (noO) (intO (vE 2))) (slE (vE 1) (intO (binE addD (binE addD (vE 2) (cE (.int 1))) (callF M__law_grab (consA (vE 0) (consA (cE (.int 2)) (nilA)))))) (noO)))) (nxS) [.own true (.lst l), .val (.str x), .val (.int a), .val (.int 1), .un, .un, .un, .un, .un, .un, .un, .un] = .rt (.val (.str (u ++ v))) [.own true (.lst l1), .val (.str x), .val (.int a), .val (.int 1), .un, .un, .un, .un, .un, .un, .un, .un] := by
  have z1 : u.length + v.length ≤ 16777216 := by omega
  simp [eqD_int, h1, h2, e, z1]
theorem sp_4 {A B : D} {L : List D} (sp : splitD (.str x) (.str "\n") = some (.new (.lst L))) : setF 5 (mthE splitD (vE 1) (cE (.str "\n"))) [.own true (.lst l), .val (.str x), .val A, .val B, .un, .un, .un, .un, .un, .un, .un, .un] = .nx [.own true (.lst l), .val (.str x), .val A, .val B, .un, .val (.lst L), .un, .un, .un, .un, .un, .un] := by
  simp [mthE, sp]
theorem sp_5 {A B : D} {L : List D} (e : ∀ p, M__law_grab [.own p (.lst l), .val (.int (L.length : Nat))] = .ok (.val (.int a)) [.own p (.lst l1), .val (.int (L.length : Nat))]) : setF 6 (callF M__law_grab (consA (vE 0) (consA (bltE lenD (consA (vE 5) (nilA))) (nilA)))) [.own true (.lst l), .val (.str x), .val A, .val B, .un, .val (.lst L), .un, .un, .un, .un, .un, .un] = .nx [.own true (.lst l1), .val (.str x), .val A, .val B, .un, .val (.lst L), .val (.int a), .un, .un, .un, .un, .un] := by
  simp [e]
theorem sp_6n {A : D} {B : Int} {L : List D} (hb : B ≠ 2) : ifS (valT (binE eqD (vE 3) (cE (.int 2)))) (seqS (setF 7 (lstE (consA (binE addD (slE (vE 5) (noO) (intO (vE 6))) (slE (vE 5) (intO (binE addD (vE 6) (cE (.int 1)))) (noO))) (consA (binE addD (vE 5) (slE (vE 5) (intO (vE 6)) (intO (binE addD (vE 6) (cE (.int 1)))))) (consA (unE rvD (vE 5)) (nilA)))))) (retS (mthE joinD (cE (.str "\n")) (callF M__law_any (consA (vE 0) (consA (vE 7) (nilA))))))) (nxS) [.own true (.lst l), .val (.str x), .val A, .val (.int B), .un, .val (.lst L), .val (.int a), .un, .un, .un, .un, .un] = .nx [.own true (.lst l), .val (.str x), .val A, .val (.int B), .un, .val (.lst L), .val (.int a), .un, .un, .un, .un, .un] := by
  simp [eqD_int, hb]
theorem sp_6 {A : D} {L X Y Z : List D} {d : D} {y : Str} (h1 : cutD L none (some (a : Int)) = X) (h2 : cutD L (some ((a : Int) + 1)) none = Y) (h3 : cutD L (some (a : Int)) (some ((a : Int) + 1)) = Z) (z1 : X.length + Y.length ≤ 16777216) (z2 : L.length + Z.length ≤ 16777216)
    (e : ∀ p, M__law_any [.own p (.lst l), .val (.lst [.lst (X ++ Y), .lst (L ++ Z), .lst L.reverse])] = .ok (.val d) [.own p (.lst l1), .val (.lst [.lst (X ++ Y), .lst (L ++ Z), .lst L.reverse])]) (hj : joinD (.str "\n") d = some (.val (.str y))) :
    ∃ ρ, ifS (valT (binE eqD (vE 3) (cE (.int 2)))) (seqS (setF 7 (lstE (consA (binE addD (slE (vE 5) (noO) (intO (vE 6))) (slE (vE 5) (intO (binE addD (vE 6) (cE (.int 1)))) (noO))) (consA (binE addD (vE 5) (slE (vE 5) (intO (vE 6)) (intO (binE addD (vE 6) (cE (.int 1)))))) (consA (unE rvD (vE 5)) (nilA)))))) (retS (mthE joinD (cE (.str "\n")) (callF M__law_any (consA (vE 0) (consA (vE 7) (nilA))))))) (nxS) [.own true (.lst l), .val (.str x), .val A, .val (.int 2), .un, .val (.lst L), .val (.int a), .un, .un, .un, .un, .un] = .rt (.val (.str y)) (.own true (.lst l1) :: .val (.str x) :: ρ) := by
  have rv : rvD (.lst L) = some (.new (.lst L.reverse)) := rfl
  refine ⟨[.val A, .val (.int 2), .un, .val (.lst L), .val (.int a), .val (.lst [.lst (X ++ Y), .lst (L ++ Z), .lst L.reverse]), .un, .un, .un, .un], ?_⟩
  simp [eqD_int, h1, h2, h3, z1, z2, rv, e, hj, mthE]
end
section
variable {l l1 l2 l3 : List D} {x : Str} {a b : Nat}
def moreL : List Str := "share" :: "sum" :: "3" :: "01" :: "-1" :: "12" :: "13" :: "True" :: []
theorem sp_7n {A : D} {B : Int} {L : List D} {H : D} (hb : ¬ B < 6) : I__law_spoil_2 [.own true (.lst l), .val (.str x), .val A, .val (.int B), .un, .val (.lst L), .val H, .un, .un, .un, .un, .un] = .nx [.own true (.lst l), .val (.str x), .val A, .val (.int B), .un, .val (.lst L), .val H, .un, .un, .un, .un, .un] := by
  simp [I__law_spoil_2, hb]
theorem sp_7 {A : D} {B : Int} {L W P R M : List D} {H : D} {w : D} {y : Str} (hb : B < 6) (sp : splitD (.str x) (.str " ") = some (.new (.lst W)))
    (e1 : ∀ p, M__law_grab [.own p (.lst l), .val (.int (W.length : Nat))] = .ok (.val (.int a)) [.own p (.lst l1), .val (.int (W.length : Nat))])
    (e2 : ∀ p, M__law_grab [.own p (.lst l1), .val (.int 2)] = .ok (.val (.int b)) [.own p (.lst l2), .val (.int 2)]) (hR : cutD W (some ((a : Int) + (b : Int))) none = R) (hM : W ++ moreL.map .str = M) (zM : W.length + 8 ≤ 16777216)
    (e3 : ∀ p, M__law_any [.own p (.lst l2), .val (.lst M)] = .ok (.val w) [.own p (.lst l3), .val (.lst M)]) (hP : cutD W none (some (a : Int)) = P) (z1 : P.length + 1 ≤ 16777216) (z2 : P.length + 1 + R.length ≤ 16777216) (hj : joinD (.str " ") (.lst (P ++ [w] ++ R)) = some (.val (.str y))) :
    ∃ ρ, I__law_spoil_2 [.own true (.lst l), .val (.str x), .val A, .val (.int B), .un, .val (.lst L), .val H, .un, .un, .un, .un, .un] = .rt (.val (.str y)) (.own true (.lst l3) :: .val (.str x) :: ρ) := by
  subst hM
  simp [moreL] at e3 hj
  have s1 : setF 8 (mthE splitD (vE 1) (cE (.str " "))) [.own true (.lst l), .val (.str x), .val A, .val (.int B), .un, .val (.lst L), .val H, .un, .un, .un, .un, .un] = .nx [.own true (.lst l), .val (.str x), .val A, .val (.int B), .un, .val (.lst L), .val H, .un, .val (.lst W), .un, .un, .un] := by simp [mthE, sp]
  have s2 : setF 9 (callF M__law_grab (consA (vE 0) (consA (bltE lenD (consA (vE 8) (nilA))) (nilA)))) [.own true (.lst l), .val (.str x), .val A, .val (.int B), .un, .val (.lst L), .val H, .un, .val (.lst W), .un, .un, .un] = .nx [.own true (.lst l1), .val (.str x), .val A, .val (.int B), .un, .val (.lst L), .val H, .un, .val (.lst W), .val (.int a), .un, .un] := by simp [e1]
  have s3 : setF 10 (slE (vE 8) (intO (binE addD (vE 9) (callF M__law_grab (consA (vE 0) (consA (cE (.int 2)) (nilA)))))) (noO)) [.own true (.lst l1), .val (.str x), .val A, .val (.int B), .un, .val (.lst L), .val H, .un, .val (.lst W), .val (.int a), .un, .un] = .nx [.own true (.lst l2), .val (.str x), .val A, .val (.int B), .un, .val (.lst L), .val H, .un, .val (.lst W), .val (.int a), .val (.lst R), .un] := by simp [e2, hR]
  have s4 : setF 11 (callF M__law_any (consA (vE 0) (consA (binE addD (vE 8) (lstE (consA (cE (.str "share")) (consA (cE (.str "sum")) (consA (cE (.str "3")) (consA (cE (.str "01")) (consA (cE (.str "-1")) (consA (cE (.str "12")) (consA (cE (.str "13")) (consA (cE (.str "True")) (nilA))))))))))) (nilA)))) [.own true (.lst l2), .val (.str x), .val A, .val (.int B), .un, .val (.lst L), .val H, .un, .val (.lst W), .val (.int a), .val (.lst R), .un] = .nx [.own true (.lst l3), .val (.str x), .val A, .val (.int B), .un, .val (.lst L), .val H, .un, .val (.lst W), .val (.int a), .val (.lst R), .val w] := by simp [e3, zM]
  have s5 : retS (mthE joinD (cE (.str " ")) (binE addD (binE addD (slE (vE 8) (noO) (intO (vE 9))) (lstE (consA (vE 11) (nilA)))) (vE 10))) [.own true (.lst l3), .val (.str x), .val A, .val (.int B), .un, .val (.lst L), .val H, .un, .val (.lst W), .val (.int a), .val (.lst R), .val w] = .rt (.val (.str y)) [.own true (.lst l3), .val (.str x), .val A, .val (.int B), .un, .val (.lst L), .val H, .un, .val (.lst W), .val (.int a), .val (.lst R), .val w] := by simp [mthE, hP, z1, z2, hj]
  have t : valT (binE ltD (vE 3) (cE (.int 6))) [.own true (.lst l), .val (.str x), .val A, .val (.int B), .un, .val (.lst L), .val H, .un, .un, .un, .un, .un] = .ok true [.own true (.lst l), .val (.str x), .val A, .val (.int B), .un, .val (.lst L), .val H, .un, .un, .un, .un, .un] := by simp [hb]
  refine ⟨[.val A, .val (.int B), .un, .val (.lst L), .val H, .un, .val (.lst W), .val (.int a), .val (.lst R), .val w], ?_⟩
  unfold I__law_spoil_2
  rw [x_ifS, t]
  show seqS _ _ _ = _
  rw [seq_nx s1, seq_nx s2, seq_nx s3, seq_nx s4]
  exact s5
theorem sp_8 {A B H : D} {L : List D} {w : D} (z : x.length ≤ 1000000) (e : ∀ p, M__law_any [.own p (.lst l), .val (.lst [.str (x ++ "\n"), .str ("\n" ++ x), .str (x ++ " "), .str (" " ++ x), .str "", .str (x ++ " 2")])] = .ok (.val w) [.own p (.lst l1), .val (.lst [.str (x ++ "\n"), .str ("\n" ++ x), .str (x ++ " "), .str (" " ++ x), .str "", .str (x ++ " 2")])]) :
    retS (callF M__law_any (consA (vE 0) (consA (lstE (consA (binE addD (vE 1) (cE (.str "\n"))) (consA (binE addD (cE (.str "\n")) (vE 1)) (consA (binE addD (vE 1) (cE (.str " "))) (consA (binE addD (cE (.str " ")) (vE 1)) (consA (cE (.str "")) (consA (binE addD (vE 1) (cE (.str " 2"))) (nilA)))))))) (nilA)))) [.own true (.lst l), .val (.str x), .val A, .val B, .un, .val (.lst L), .val H, .un, .un, .un, .un, .un] = .rt (.val w) [.own true (.lst l1), .val (.str x), .val A, .val B, .un, .val (.lst L), .val H, .un, .un, .un, .un, .un] := by
  have n1 : ("\n" : Str).length = 1 := by decide
  have n2 : (" " : Str).length = 1 := by decide
  have n3 : (" 2" : Str).length = 2 := by decide
  have z1 : x.length + ("\n" : Str).length ≤ 16777216 := by omega
  have z2 : ("\n" : Str).length + x.length ≤ 16777216 := by omega
  have z3 : x.length + (" " : Str).length ≤ 16777216 := by omega
  have z4 : (" " : Str).length + x.length ≤ 16777216 := by omega
  have z5 : x.length + (" 2" : Str).length ≤ 16777216 := by omega
  simp [z1, z2, z3, z4, z5, e]
end
theorem sp_run {l l' : List D} {x y : Str} {ρ : Rho} (h : B__law_spoil [.own true (.lst l), .val (.str x), .un, .un, .un, .un, .un, .un, .un, .un, .un, .un] = .rt (.val (.str y)) (.own true (.lst l') :: .val (.str x) :: ρ)) (p : Bool) : M__law_spoil [.own p (.lst l), .val (.str x)] = .ok (.val (.str y)) [.own p (.lst l'), .val (.str x)] := by
  unfold M__law_spoil
  cases p <;> simp [h]
/-! a spoilt text -/
structure Spo (x y : Str) : Prop where
  asc : Asc y
  len : y.length ≤ 3 * x.length + 50
theorem asc_take {x : Str} (h : Asc x) (n : Nat) : Asc (SX.S (x.cps.toList.take n)) := asc_S fun c hc => h c (List.mem_of_mem_take hc)
theorem asc_drop {x : Str} (h : Asc x) (n : Nat) : Asc (SX.S (x.cps.toList.drop n)) := asc_S fun c hc => h c (List.mem_of_mem_drop hc)
theorem cut_any {L : List Str} (lo hi : Option Int) : ∃ i n, cutD (L.map .str) lo hi = ((L.drop i).take n).map .str := ⟨_, _, by unfold cutD; rw [← List.map_drop, ← List.map_take]⟩
theorem part_any {L : List Str} {i n : Nat} {p : Str} (h : p ∈ (L.drop i).take n) : p ∈ L := List.mem_of_mem_drop (List.mem_of_mem_take h)
theorem mem_any {l : List D} {d : D} {L : List Str} (h : d ∈ l) (e : l = L.map .str) : ∃ w ∈ L, d = .str w := by
  subst e
  obtain ⟨w, hw, rfl⟩ := List.mem_map.mp h
  exact ⟨w, hw, rfl⟩
theorem put_asc : ∀ w ∈ putL, Asc w := asc_bs (by decide +kernel)
theorem put_len : ∀ w ∈ putL, w.length ≤ 10 := len_le (by decide +kernel)
theorem more_asc : ∀ w ∈ moreL, Asc w := asc_bs (by decide +kernel)
theorem more_len : ∀ w ∈ moreL, w.length ≤ 10 := len_le (by decide +kernel)
theorem any_big {sk : List D} {l : List D} (hs : Sk sk) (hl : l ≠ []) (hz : l.length ≤ 1000000) : ∃ d ∈ l, ∃ sk', Sk sk' ∧ ∀ p, M__law_any [.own p (.lst sk), .val (.lst l)] = .ok (.val d) [.own p (.lst sk'), .val (.lst l)] := by
  have h0 : 0 < l.length := List.length_pos_iff.mpr hl
  obtain ⟨r, sk', h1, h2, e⟩ := grab_ok hs (m := l.length) (by omega) (by omega)
  have h3 : r < l.length := by omega
  refine ⟨l[r], List.getElem_mem h3, sk', h1, fun p => ?_⟩
  have e1 : atI l (r : Int) = some l[r] := by rw [x_atI]; simp [h3]
  simp [M__law_any, B__law_any, e, e1]
theorem spoil_ok {sk : List D} {x : Str} (hs : Sk sk) (ha : Asc x) (hl : x.length ≤ 10000) : ∃ y sk', Sk sk' ∧ Spo x y ∧ ∀ p, M__law_spoil [.own p (.lst sk), .val (.str x)] = .ok (.val (.str y)) [.own p (.lst sk'), .val (.str x)] := by
  have hlen : lenD [.str x] = vI (x.length : Nat) := by
    show (if x.length ≤ sizeLine then vI (x.length : Int) else none) = _
    rw [if_pos (by rw [x_size]; omega)]
  obtain ⟨a, s1, k1, ha1, e1⟩ := grab_ok hs (m := ((x.length : Nat) : Int) + 1) (by omega) (by omega)
  obtain ⟨b, s2, k2, hb1, e2⟩ := grab_ok k1 (m := 8) (by omega) (by omega)
  have F1 := sp_1 hlen e1 e2
  have hL := len_tl x
  by_cases h0 : b = 0
  · subst h0
    obtain ⟨d, hd, s3, k3, e3⟩ := any_ok k2 (l := putL.map .str) (by simp [putL]) (by simp [putL])
    obtain ⟨w, hw, rfl⟩ := mem_any hd rfl
    have w1 := put_len w hw
    have u1 : (SX.S (x.cps.toList.take a)).length ≤ x.length := by rw [len_S, List.length_take]; omega
    have u2 : (SX.S (x.cps.toList.drop a)).length ≤ x.length - a := by rw [len_S, List.length_drop]; omega
    have u3 : (SX.S (x.cps.toList.take a)).length ≤ a := by rw [len_S, List.length_take]; omega
    refine ⟨_, s3, k3, ⟨asc_app (asc_app (asc_take ha a) (put_asc w hw)) (asc_drop ha a), ?_⟩, sp_run (ρ := [.val (.int a), .val (.int 0), .val (.lst (putL.map .str)), .un, .un, .un, .un, .un, .un, .un]) ?_⟩
    · rw [Str.length_append, Str.length_append]; omega
    · unfold B__law_spoil
      rw [seq_nx F1]
      exact seq_rt (sp_2 (sl_to (by omega)) (sl_from (by omega)) (by omega) e3)
  · have F2 := sp_2n (l := s2) (x := x) (a := a) (B := (b : Int)) (by omega)
    by_cases h1 : b = 1
    · subst h1
      obtain ⟨c, s3, k3, hc, e3⟩ := grab_ok k2 (m := 2) (by omega) (by omega)
      have u1 : (SX.S (x.cps.toList.take a)).length ≤ x.length := by rw [len_S, List.length_take]; omega
      have u2 : (SX.S (x.cps.toList.drop (a + 1 + c))).length ≤ x.length := by rw [len_S, List.length_drop]; omega
      have sl := sl_from (x := x) (k := a + 1 + c) (by omega)
      rw [show ((a + 1 + c : Nat) : Int) = (a : Int) + 1 + (c : Int) by omega] at sl
      refine ⟨_, s3, k3, ⟨asc_app (asc_take ha a) (asc_drop ha (a + 1 + c)), ?_⟩, sp_run (ρ := [.val (.int a), .val (.int 1), .un, .un, .un, .un, .un, .un, .un, .un]) ?_⟩
      · rw [Str.length_append]; omega
      · unfold B__law_spoil
        rw [seq_nx F1, seq_nx F2]
        exact seq_rt (sp_3 (sl_to (by omega)) sl (by omega) e3)
    · have F3 := sp_3n (l := s2) (x := x) (a := a) (B := (b : Int)) (by omega)
      have K := cuts_at (c := 10) (x := x)
      have F4 := sp_4 (l := s2) (A := .int a) (B := .int b) (split_nl (x := x) (by omega))
      have KL := K.len
      have kw : Wt (cutAt 10 x) = x.length + 1 := K.sum
      obtain ⟨h, s3, k3, hh, e3⟩ := grab_ok k2 (m := (((cutAt 10 x).map D.str).length : Nat)) (by rw [List.length_map]; have := List.length_pos_iff.mpr K.ne; omega) (by rw [List.length_map]; omega)
      have F5 := sp_5 (x := x) (A := .int a) (B := .int b) e3
      by_cases h2 : b = 2
      · subst h2
        obtain ⟨i1, n1, X⟩ := cut_any (L := cutAt 10 x) none (some (h : Int))
        obtain ⟨i2, n2, Y⟩ := cut_any (L := cutAt 10 x) (some ((h : Int) + 1)) none
        obtain ⟨i3, n3, Z⟩ := cut_any (L := cutAt 10 x) (some (h : Int)) (some ((h : Int) + 1))
        have w1 := wt_mid (cutAt 10 x) i1 n1
        have w2 := wt_mid (cutAt 10 x) i2 n2
        have w3 := wt_mid (cutAt 10 x) i3 n3
        have q1 := len_wt (((cutAt 10 x).drop i1).take n1)
        have q2 := len_wt (((cutAt 10 x).drop i2).take n2)
        have q3 := len_wt (((cutAt 10 x).drop i3).take n3)
        obtain ⟨d, hd, s4, k4, e4⟩ := any_ok k3 (l := [.lst ((((cutAt 10 x).drop i1).take n1).map .str ++ (((cutAt 10 x).drop i2).take n2).map .str), .lst ((cutAt 10 x).map .str ++ (((cutAt 10 x).drop i3).take n3).map .str), .lst ((cutAt 10 x).map D.str).reverse]) (by simp) (by simp)
        have dd : ∃ l : List Str, d = .lst (l.map .str) ∧ (∀ p ∈ l, p ∈ cutAt 10 x) ∧ Wt l ≤ 2 * (x.length + 1) := by
          simp only [List.mem_cons, List.not_mem_nil, or_false] at hd
          rcases hd with h | h | h
          · refine ⟨((cutAt 10 x).drop i1).take n1 ++ ((cutAt 10 x).drop i2).take n2, by rw [List.map_append]; exact h, fun p hp => ?_, by rw [wt_app]; omega⟩
            rcases List.mem_append.mp hp with hp | hp
            · exact part_any hp
            · exact part_any hp
          · refine ⟨cutAt 10 x ++ ((cutAt 10 x).drop i3).take n3, by rw [List.map_append]; exact h, fun p hp => ?_, by rw [wt_app]; omega⟩
            rcases List.mem_append.mp hp with hp | hp
            · exact hp
            · exact part_any hp
          · exact ⟨(cutAt 10 x).reverse, by rw [List.map_reverse]; exact h, fun p hp => List.mem_reverse.mp hp, by rw [wt_rev]; omega⟩
        obtain ⟨l, rfl, l1, l2⟩ := dd
        have hj := join_D (c := 10) (l := l) (by omega)
        obtain ⟨ρ, f⟩ := sp_6 (x := x) (A := .int a) (y := Txt.join (SX.S [10]) l) X Y Z (by rw [List.length_map, List.length_map]; omega) (by rw [List.length_map, List.length_map]; omega) e4 hj
        have jw := join_wt 10 l
        refine ⟨Txt.join (SX.S [10]) l, s4, k4, ⟨asc_joinS (c := 10) (by decide) fun p hp => (K.part p (l1 p hp)).2 ha, ?_⟩, sp_run (ρ := ρ) ?_⟩
        · omega
        · unfold B__law_spoil
          rw [seq_nx F1, seq_nx F2, seq_nx F3, seq_nx F4, seq_nx F5]
          exact seq_rt f
      · have F6 := sp_6n (l := s3) (x := x) (a := h) (A := .int a) (B := (b : Int)) (L := (cutAt 10 x).map D.str) (by omega)
        by_cases h6 : b < 6
        · have K2 := cuts_at (c := 32) (x := x)
          have KL2 := K2.len
          have kw2 : Wt (cutAt 32 x) = x.length + 1 := K2.sum
          obtain ⟨g, s4, k4, hg, e4⟩ := grab_ok k3 (m := (((cutAt 32 x).map D.str).length : Nat)) (by rw [List.length_map]; have := List.length_pos_iff.mpr K2.ne; omega) (by rw [List.length_map]; omega)
          obtain ⟨t, s5, k5, ht, e5⟩ := grab_ok k4 (m := 2) (by omega) (by omega)
          obtain ⟨i1, n1, R⟩ := cut_any (L := cutAt 32 x) (some ((g : Int) + (t : Int))) none
          obtain ⟨i2, n2, P⟩ := cut_any (L := cutAt 32 x) none (some (g : Int))
          obtain ⟨d, hd, s6, k6, e6⟩ := any_big k5 (l := (cutAt 32 x ++ moreL).map .str) (by simp [moreL]) (by rw [List.length_map, List.length_append]; simp [moreL]; omega)
          obtain ⟨w, hw, rfl⟩ := mem_any hd rfl
          have wg : Asc w ∧ w.length ≤ x.length + 10 := by
            rcases List.mem_append.mp hw with hw | hw
            · have := K2.part w hw
              exact ⟨this.2 ha, by omega⟩
            · have := more_len w hw
              exact ⟨more_asc w hw, by omega⟩
          have w1 := wt_mid (cutAt 32 x) i1 n1
          have w2 := wt_mid (cutAt 32 x) i2 n2
          have q1 := len_wt (((cutAt 32 x).drop i1).take n1)
          have q2 := len_wt (((cutAt 32 x).drop i2).take n2)
          have wl : Wt (((cutAt 32 x).drop i2).take n2 ++ [w] ++ ((cutAt 32 x).drop i1).take n1) ≤ 3 * x.length + 13 := by rw [wt_app, wt_app, wt_one]; omega
          have hj := join_D (c := 32) (l := ((cutAt 32 x).drop i2).take n2 ++ [w] ++ ((cutAt 32 x).drop i1).take n1) (by omega)
          rw [List.map_append, List.map_append] at hj
          have jw := join_wt 32 (((cutAt 32 x).drop i2).take n2 ++ [w] ++ ((cutAt 32 x).drop i1).take n1)
          obtain ⟨ρ, f⟩ := sp_7 (A := .int a) (L := (cutAt 10 x).map .str) (H := .int h) (show (b : Int) < 6 by omega) (split_sp (x := x) (by omega)) e4 e5 R (List.map_append.symm) (by rw [List.length_map]; omega) e6 P (by rw [List.length_map]; omega) (by rw [List.length_map, List.length_map]; omega) hj
          refine ⟨Txt.join (SX.S [32]) (((cutAt 32 x).drop i2).take n2 ++ [w] ++ ((cutAt 32 x).drop i1).take n1), s6, k6, ⟨asc_joinS (c := 32) (by decide) fun p hp => ?_, ?_⟩, sp_run (ρ := ρ) ?_⟩
          · rcases List.mem_append.mp hp with hp | hp
            · rcases List.mem_append.mp hp with hp | hp
              · exact (K2.part p (part_any hp)).2 ha
              · rw [List.mem_singleton.mp hp]; exact wg.1
            · exact (K2.part p (part_any hp)).2 ha
          · omega
          · unfold B__law_spoil
            rw [seq_nx F1, seq_nx F2, seq_nx F3, seq_nx F4, seq_nx F5, seq_nx F6]
            exact seq_rt f
        · have F7 := sp_7n (l := s3) (x := x) (A := .int a) (B := (b : Int)) (L := (cutAt 10 x).map D.str) (H := .int h) (by omega)
          obtain ⟨d, hd, s4, k4, e4⟩ := any_ok k3 (l := [.str (x ++ "\n"), .str ("\n" ++ x), .str (x ++ " "), .str (" " ++ x), .str "", .str (x ++ " 2")]) (by simp) (by simp)
          have n1 : ("\n" : Str).length = 1 := by decide
          have n2 : (" " : Str).length = 1 := by decide
          have n3 : (" 2" : Str).length = 2 := by decide
          have n4 : ("" : Str).length = 0 := by decide
          have m1 : Asc "\n" := asc_b (by decide +kernel)
          have m2 : Asc " " := asc_b (by decide +kernel)
          have m3 : Asc " 2" := asc_b (by decide +kernel)
          have m4 : Asc "" := asc_b (by decide +kernel)
          have dd : ∃ y, d = .str y ∧ Spo x y := by
            simp only [List.mem_cons, List.not_mem_nil, or_false] at hd
            rcases hd with h | h | h | h | h | h
            · exact ⟨_, h, asc_app ha m1, by rw [Str.length_append]; omega⟩
            · exact ⟨_, h, asc_app m1 ha, by rw [Str.length_append]; omega⟩
            · exact ⟨_, h, asc_app ha m2, by rw [Str.length_append]; omega⟩
            · exact ⟨_, h, asc_app m2 ha, by rw [Str.length_append]; omega⟩
            · exact ⟨_, h, m4, by omega⟩
            · exact ⟨_, h, asc_app ha m3, by rw [Str.length_append]; omega⟩
          obtain ⟨y, rfl, sy⟩ := dd
          refine ⟨y, s4, k4, sy, sp_run (ρ := [.val (.int a), .val (.int b), .un, .val (.lst ((cutAt 10 x).map .str)), .val (.int h), .un, .un, .un, .un, .un]) ?_⟩
          · unfold B__law_spoil
            rw [seq_nx F1, seq_nx F2, seq_nx F3, seq_nx F4, seq_nx F5, seq_nx F6, seq_nx F7]
            exact sp_8 (by omega) e4
/-! things that may be no texts -/
def Okd (d : D) : Prop := (∃ x, d = .str x ∧ Asc x ∧ x.length ≤ 100000) ∨ isiD "str" d = vB false
def okdB : D → Bool
  | .str x => ascB x && decide (x.length ≤ 100000)
  | .int _ | .bl _ | .non | .tup _ | .lst _ => true
  | _ => false
theorem okd_b {d : D} (h : okdB d = true) : Okd d := by
  cases d with
  | str x =>
    have h : (ascB x && decide (x.length ≤ 100000)) = true := h
    simp only [Bool.and_eq_true, decide_eq_true_eq] at h
    exact .inl ⟨x, rfl, asc_b h.1, h.2⟩
  | int => exact .inr rfl
  | bl => exact .inr rfl
  | non => exact .inr rfl
  | tup => exact .inr rfl
  | lst => exact .inr rfl
  | _ => cases h
theorem okd_bs {l : List D} (h : l.all okdB = true) : ∀ d ∈ l, Okd d := fun d hd => by
  rw [List.all_eq_true] at h
  exact okd_b (h d hd)
def P38 : Int := 100000000000000000000000000000000000000
theorem pw38 : powD (.int 10) (.int 38) = vI P38 := powN (by decide) rfl
def stuffL : List D := [.int 0, .int 1, .int 2, .int 3, .int 9, .int 16, .int (-1), .bl true, .bl false, .non, .str "", .str "sum", .str "root", .str "add", .int P38, .tup [], .lst []]
def stuffM : List D := [.tup [.str "root"], .tup [.str "times", .int 2], .tup [.str "add", .int 1, .str "one"], .tup [.str "rest", .int 3], .tup [.tup [], .non]]
theorem stuff_okd : ∀ d ∈ stuffL ++ stuffM, Okd d := okd_bs (by decide +kernel)
theorem rng1_ok2 {f : Ev} {ρ ρ' : Rho} {i : Int} {n : Nat} (h : f ρ = .ok (.val (.int i)) ρ') (e : i.toNat = n) (h1 : i.natAbs < 1000000000) : rng1 f ρ = .ok (intsD 0 n) ρ' := by
  rw [x_rng1, x_bindG, h]
  show (if -(2 ^ 62) ≤ i ∧ i < 2 ^ 62 then _ else _) = _
  rw [if_pos ⟨by omega, by omega⟩, e]
section
variable {l l1 l2 : List D} {n : Int} {r : Nat}
theorem st_t0 : orT (valT (binE eqD (vE 1) (cE (.int 0)))) (valT (binE ltD (callF M__law_grab (consA (vE 0) (consA (cE (.int 9)) (nilA)))) (cE (.int 6)))) [.own true (.lst l), .val (.int 0), .un, .un, .un] = .ok true [.own true (.lst l), .val (.int 0), .un, .un, .un] := by
  simp [eqD_int]
theorem st_t1 (hn : n ≠ 0) (e : ∀ p, M__law_grab [.own p (.lst l), .val (.int 9)] = .ok (.val (.int r)) [.own p (.lst l1), .val (.int 9)]) : orT (valT (binE eqD (vE 1) (cE (.int 0)))) (valT (binE ltD (callF M__law_grab (consA (vE 0) (consA (cE (.int 9)) (nilA)))) (cE (.int 6)))) [.own true (.lst l), .val (.int n), .un, .un, .un] = .ok (decide (r < 6)) [.own true (.lst l1), .val (.int n), .un, .un, .un] := by
  by_cases h : r < 6
  · have h1 : (r : Int) < 6 := by omega
    simp [eqD_int, hn, e, h, h1]
  · have h1 : ¬ (r : Int) < 6 := by omega
    simp [eqD_int, hn, e, h, h1]
theorem st_a {d : D} (e : ∀ p, M__law_any [.own p (.lst l), .val (.lst (stuffL ++ stuffM))] = .ok (.val d) [.own p (.lst l1), .val (.lst (stuffL ++ stuffM))]) :
    ∃ c, seqS (setF 2 (lstE (consA (cE (.int 0)) (consA (cE (.int 1)) (consA (cE (.int 2)) (consA (cE (.int 3)) (consA (cE (.int 9)) (consA (cE (.int 16)) (consA (unE negD (cE (.int 1))) (consA (cE (.bl true)) (consA (cE (.bl false)) (consA (cE .non) (consA (cE (.str "")) (consA (cE (.str "sum")) (consA (cE (.str "root")) (consA (cE (.str "add")) (consA (binE powD (cE (.int 10)) (cE (.int 38))) (consA (tupE (nilA)) (consA (lstE (nilA)) (nilA)))))))))))))))))))) (retS (callF M__law_any (consA (vE 0) (consA (binE addD (vE 2) (lstE (consA (tupE (consA (cE (.str "root")) (nilA))) (consA (tupE (consA (cE (.str "times")) (consA (cE (.int 2)) (nilA)))) (consA (tupE (consA (cE (.str "add")) (consA (cE (.int 1)) (consA (cE (.str "one")) (nilA))))) (consA (tupE (consA (cE (.str "rest")) (consA (cE (.int 3)) (nilA)))) (consA (tupE (consA (tupE (nilA)) (consA (cE .non) (nilA)))) (nilA)))))))) (nilA))))) [.own true (.lst l), .val (.int n), .un, .un, .un] = .rt (.val d) [.own true (.lst l1), .val (.int n), c, .un, .un] := by
  refine ⟨.val (.lst stuffL), ?_⟩
  simp [stuffL, stuffM] at e
  simp [stuffL, pw38, e]
theorem st_i (e : ∀ p, M__law_grab [.own p (.lst l), .val (.int 4)] = .ok (.val (.int r)) [.own p (.lst l1), .val (.int 4)]) (hr : r ≤ 1000) : rng1 (callF M__law_grab (consA (vE 0) (consA (cE (.int 4)) (nilA)))) [.own true (.lst l), .val (.int n), .un, .un, .un] = .ok (intsD 0 r) [.own true (.lst l1), .val (.int n), .un, .un, .un] := by
  have h : callF M__law_grab (consA (vE 0) (consA (cE (.int 4)) (nilA))) [.own true (.lst l), .val (.int n), .un, .un, .un] = .ok (.val (.int r)) [.own true (.lst l1), .val (.int n), .un, .un, .un] := by simp [e]
  exact rng1_ok2 h rfl (by omega)
theorem st_f {self : Ev} {m : Int} {k d : D} (hm : n - 1 = m) (e : ∀ p, self [.own p (.lst l), .val (.int m)] = .ok (.val d) [.own p (.lst l1), .val (.int m)]) : callF self (consA (vE 0) (consA (binE subD (vE 1) (cE (.int 1))) (nilA))) [.own true (.lst l), .val (.int n), .un, .un, .val k] = .ok (.val d) [.own true (.lst l1), .val (.int n), .un, .un, .val k] := by
  subst hm
  simp [e]
theorem st_e {d : D} {X : List D} {c : Cell} {r : Nat} (e : ∀ p, M__law_grab [.own p (.lst l), .val (.int 3)] = .ok (.val (.int r)) [.own p (.lst l1), .val (.int 3)]) : retS (ifE (valT (binE eqD (callF M__law_grab (consA (vE 0) (consA (cE (.int 3)) (nilA)))) (cE (.int 0)))) (vE 3) (bltE tupleD (consA (vE 3) (nilA)))) [.own true (.lst l), .val (.int n), .un, .val (.lst X), .un] = .rt (.val (if r = 0 then .lst X else .tup X)) [.own true (.lst l1), .val (.int n), .un, .val (.lst X), .un] := by
  have tp : tupleD [.lst X] = some (.val (.tup X)) := rfl
  by_cases h : r = 0
  · subst h
    simp [e, eqD_int]
  · have h1 : ¬ (r : Int) = 0 := by omega
    simp [e, eqD_int, h, tp]
end
theorem lcL_st {gt : Gv} {ct : Tv} {f : Ev} {vs : List Nat} {d e : D} {ds acc : List D} {ρ ρ1 ρ3 ρ5 : Rho} (h0 : gt d ρ = some ρ1) (h1 : ct ρ1 = .ok true ρ1) (h2 : f ρ1 = .ok (.val e) ρ3) (hz : acc.length < 16777216) (h3 : wipeR vs ρ3 = some ρ5) : lcL gt ct f vs (d :: ds) acc ρ = lcL gt ct f vs ds (acc ++ [e]) ρ5 := by
  have sz : acc.length < sizeLine := by rw [x_size]; exact hz
  rw [lcL, h0]
  simp only [h1, h2, x_fz1, Option.bind_some, x_grab1, sz, if_true, h3]
theorem st_lc {self : Ev} {n m : Int} (hm : n - 1 = m) (hs : ∀ sk, Sk sk → ∃ d sk', Sk sk' ∧ ∀ p, self [.own p (.lst sk), .val (.int m)] = .ok (.val d) [.own p (.lst sk'), .val (.int m)]) : ∀ (ds acc : List D) (sk : List D), Sk sk → acc.length + ds.length ≤ 10000 →
    ∃ acc' sk', Sk sk' ∧ lcL (gN 4) (okT true) (callF self (consA (vE 0) (consA (binE subD (vE 1) (cE (.int 1))) (nilA)))) [4] ds acc [.own true (.lst sk), .val (.int n), .un, .un, .un] = .ok acc' [.own true (.lst sk'), .val (.int n), .un, .un, .un]
  | [], acc, sk, h, _ => ⟨acc, sk, h, rfl⟩
  | k :: ds, acc, sk, h, hl => by
    obtain ⟨d, s1, k1, e1⟩ := hs sk h
    simp only [List.length_cons] at hl
    obtain ⟨acc', s2, k2, e2⟩ := st_lc (self := self) hm hs ds (acc ++ [d]) s1 k1 (by simp; omega)
    have f := st_f (l := sk) (k := k) hm e1
    have sz : acc.length < 16777216 := by omega
    refine ⟨acc', s2, k2, ?_⟩
    rw [← e2]
    exact lcL_st (ρ1 := [.own true (.lst sk), .val (.int n), .un, .un, .val k]) rfl rfl f sz rfl
theorem lcE_ok2 {fi : Iv} {gt : Gv} {c : Tv} {f : Ev} {vs : List Nat} {ρ ρ1 ρ2 ρ3 : Rho} {ds acc : List D} (h1 : fi ρ = .ok ds ρ1) (h2 : wipeR vs ρ1 = some ρ2) (h3 : lcL gt c f vs ds [] ρ2 = .ok acc ρ3) : lcE fi gt c f vs ρ = .ok (.new (.lst acc)) ρ3 := by
  rw [x_lcE, h1]
  simp only [h2, h3]
theorem st_run {B : Sv} {l l' : List D} {n : Int} {d : D} {c2 c3 c4 : Cell} (h : B [.own true (.lst l), .val (.int n), .un, .un, .un] = .rt (.val d) [.own true (.lst l'), .val (.int n), c2, c3, c4]) (p : Bool) : runD 2 3 B [.own p (.lst l), .val (.int n)] = .ok (.val d) [.own p (.lst l'), .val (.int n)] := by
  cases p <;> simp [h]
theorem stuff_f : ∀ (n f : Nat), n < f → ∀ sk, Sk sk → ∃ d sk', Sk sk' ∧ Okd d ∧ ∀ p, R__law_stuff f [.own p (.lst sk), .val (.int n)] = .ok (.val d) [.own p (.lst sk'), .val (.int n)]
  | _, 0, h, _, _ => absurd h (by omega)
  | n, f + 1, h, sk, hs => by
    have draw : ∀ s1, Sk s1 → orT (valT (binE eqD (vE 1) (cE (.int 0)))) (valT (binE ltD (callF M__law_grab (consA (vE 0) (consA (cE (.int 9)) (nilA)))) (cE (.int 6)))) [.own true (.lst sk), .val (.int n), .un, .un, .un] = .ok true [.own true (.lst s1), .val (.int n), .un, .un, .un] →
        ∃ d sk', Sk sk' ∧ Okd d ∧ ∀ p, R__law_stuff (f + 1) [.own p (.lst sk), .val (.int n)] = .ok (.val d) [.own p (.lst sk'), .val (.int n)] := fun s1 k1 t => by
      obtain ⟨d, hd, s2, k2, e2⟩ := any_ok k1 (l := stuffL ++ stuffM) (by simp [stuffL]) (by simp [stuffL, stuffM])
      obtain ⟨c, fr⟩ := st_a (n := (n : Int)) e2
      refine ⟨d, s2, k2, stuff_okd d hd, st_run (c2 := c) (c3 := .un) (c4 := .un) ?_⟩
      unfold B__law_stuff I__law_stuff_1
      refine seq_rt ?_
      rw [x_ifS, t]
      exact fr
    by_cases hn : n = 0
    · subst hn
      exact draw sk hs st_t0
    · obtain ⟨r, s1, k1, hr, e1⟩ := grab_ok hs (m := 9) (by omega) (by omega)
      have t := st_t1 (n := (n : Int)) (by omega) e1
      by_cases h6 : r < 6
      · rw [decide_eq_true h6] at t
        exact draw s1 k1 t
      · rw [decide_eq_false h6] at t
        obtain ⟨q, s2, k2, hq, e2⟩ := grab_ok k1 (m := 4) (by omega) (by omega)
        have i := st_i (n := (n : Int)) e2 (by omega)
        obtain ⟨acc, s3, k3, e3⟩ := st_lc (self := R__law_stuff f) (n := (n : Int)) (m := ((n - 1 : Nat) : Int)) (by omega) (fun s hs => by
          obtain ⟨d, s', k', _, e⟩ := stuff_f (n - 1) f (by omega) s hs
          exact ⟨d, s', k', e⟩) (intsD 0 q) [] s2 k2 (by simp [intsD]; omega)
        obtain ⟨u, s4, k4, hu, e4⟩ := grab_ok k3 (m := 3) (by omega) (by omega)
        refine ⟨_, s4, k4, ?_, st_run (c2 := .un) (c3 := .val (.lst acc)) (c4 := .un) (d := if u = 0 then .lst acc else .tup acc) ?_⟩
        · split
          · exact .inr rfl
          · exact .inr rfl
        · unfold B__law_stuff I__law_stuff_1
          refine (seq_nx (ρ' := [.own true (.lst s1), .val (.int n), .un, .un, .un]) ?_).trans ?_
          · rw [x_ifS, t]; rfl
          · refine (seq_nx (ρ' := [.own true (.lst s3), .val (.int n), .un, .val (.lst acc), .un]) ?_).trans ?_
            · exact setF_new (lcE_ok2 i rfl e3) rfl
            · exact st_e (d := .non) (c := .un) e4
theorem stuff_ok {sk : List D} (hs : Sk sk) : ∃ d sk', Sk sk' ∧ Okd d ∧ ∀ p, M__law_stuff [.own p (.lst sk), .val (.int 2)] = .ok (.val d) [.own p (.lst sk'), .val (.int 2)] := stuff_f 2 8 (by omega) sk hs
/-! the texts of tricks are plain -/
theorem num_asc : ∀ k : Fin 30, ascB (numS ((k : Nat) - 9)) = true := by decide +kernel
theorem numS_asc {t : Int} (h1 : -9 ≤ t) (h2 : t ≤ 20) : Asc (numS t) := asc_b (num_at (P := fun t => ascB (numS t) = true) num_asc h1 h2)
theorem name_asc (w : Thing) : Asc w.name := by cases w <;> exact asc_b (by decide +kernel)
theorem ws_asc {s : Stp} (h : s.ok) : ∀ w ∈ s.ws, Asc w := by
  have a1 : Asc "add" := asc_b (by decide +kernel)
  have a2 : Asc "times" := asc_b (by decide +kernel)
  have a3 : Asc "share" := asc_b (by decide +kernel)
  cases s with
  | add t w =>
    have h : -9 ≤ t ∧ t ≤ 9 ∧ t ≠ 0 := h
    intro x hx
    simp only [Stp.ws, List.mem_cons, List.not_mem_nil, or_false] at hx
    rcases hx with rfl | rfl | rfl
    · exact a1
    · exact numS_asc (by omega) (by omega)
    · exact name_asc w
  | times k =>
    have h : 2 ≤ k ∧ k ≤ 12 := h
    intro x hx
    simp only [Stp.ws, List.mem_cons, List.not_mem_nil, or_false] at hx
    rcases hx with rfl | rfl
    · exact a2
    · exact numS_asc (by omega) (by omega)
  | share k =>
    have h : 2 ≤ k ∧ k ≤ 12 := h
    intro x hx
    simp only [Stp.ws, List.mem_cons, List.not_mem_nil, or_false] at hx
    rcases hx with rfl | rfl
    · exact a3
    · exact numS_asc (by omega) (by omega)
theorem ews_asc {e : En} (h : e.ok) : ∀ w ∈ e.ws, Asc w := by
  have a1 : Asc "root" := asc_b (by decide +kernel)
  have a2 : Asc "rest" := asc_b (by decide +kernel)
  cases e with
  | no => intro x hx; cases hx
  | root =>
    intro x hx
    simp only [En.ws, List.mem_cons, List.not_mem_nil, or_false] at hx
    subst hx
    exact a1
  | rest k =>
    have h : 2 ≤ k ∧ k ≤ 20 := h
    intro x hx
    simp only [En.ws, List.mem_cons, List.not_mem_nil, or_false] at hx
    rcases hx with rfl | rfl
    · exact a2
    · exact numS_asc (by omega) (by omega)
theorem textS_asc {ss : List Stp} {e : En} (ht : OkT ss e) : Asc (textS ss e) := by
  refine asc_joinS (c := 10) (by decide) fun x hx => ?_
  rcases List.mem_cons.mp hx with rfl | hx
  · exact asc_b (by decide +kernel)
  · rcases List.mem_append.mp hx with hx | hx
    · obtain ⟨s, hs, rfl⟩ := List.mem_map.mp hx
      exact asc_joinS (c := 32) (by decide) (ws_asc (ht.st s hs))
    · have : x = lineS e.ws := by cases e <;> simp [endL] at hx <;> exact hx
      subst this
      exact asc_joinS (c := 32) (by decide) (ews_asc ht.en)
theorem upper_ok {x : Str} (h : Asc x) (hl : x.length ≤ 100000) : ∃ y, upperD (.str x) = some (.val (.str y)) ∧ Asc y ∧ y.length = x.length := by
  refine ⟨SX.S (x.cps.toList.map PyProof.Rows.up1), ?_, asc_S fun c hc => ?_, by rw [len_S, List.length_map, len_tl]⟩
  · have e := SX.upper_S (a := x.cps.toList) (by rw [List.all_eq_true]; intro c hc; exact decide_eq_true (h c hc))
    rw [S_of] at e
    rw [x_upper, if_pos (by omega), e]
  · obtain ⟨a, ha, rfl⟩ := List.mem_map.mp hc
    have := h a ha
    unfold PyProof.Rows.up1
    split <;> omega
/-! one thing of the law -/
theorem nonstr_prog {d : D} (h : isiD "str" d = vB false) : M_read_trick [.val d] = .ex ⟨"NoText", none⟩ [.val d] := by simp [M_read_trick, B_read_trick, h]
theorem nonstr_due {d : D} (h : isiD "str" d = vB false) : M__law_due [.val d] = .ok (.val .non) [.val d] := by simp [M__law_due, B__law_due, h]
theorem nts : ("NoText" : Str) ++ " +" = "NoText +" := by decide
theorem nts2 : ("NoText" : Str) ∈ errs := by decide
section
variable {S K A c3 c4 c5 c6 c7 : Cell}
theorem l1_none {d : D} (h1 : M__law_due [.val d] = .ok (.val .non) [.val d]) (h2 : M_read_trick [.val d] = .ex ⟨"NoText", none⟩ [.val d]) (f6 : Fre c6) (f7 : Fre c7) : L_law_1 [S, K, A, c3, c4, c5, c6, c7, .val d] = .nx [S, K, A, c3, c4, c5, .val .non, .val (.tup [.str "NoText +"]), .val d] := by
  have h4 : neD (.tup [.str ("NoText" ++ " +")]) (.tup [.str "NoText +"]) = vB false := by rw [nts]; exact neD_rfl (by decide +kernel)
  have n1 : notND .non .non = vB false := rfl
  simp [L_law_1, h1, h2, lawOut, nts2, h4, n1, f6.can, f7.can]
theorem l1_some {d T : D} (hT : T.ok 39 = true) (hn : notND T .non = vB true) (h1 : M__law_due [.val d] = .ok (.val T) [.val d]) (h2 : M_read_trick [.val d] = .ok (.val T) [.val d]) (f6 : Fre c6) (f7 : Fre c7) : L_law_1 [S, K, A, c3, c4, c5, c6, c7, .val d] = .nx [S, K, A, c3, c4, c5, .val T, .val (.tup [.str "told", T]), .val d] := by
  have h4 : neD (.tup [.str "told", T]) (.tup [.str "told", T]) = vB false := neD_rfl (by
    rw [ok_tup, okL_all]
    intro d hd
    simp only [List.mem_cons, List.not_mem_nil, or_false] at hd
    rcases hd with rfl | rfl
    · decide +kernel
    · exact hT)
  simp [L_law_1, h1, h2, h4, lawOut, toldW, hn, f6.can, f7.can]
theorem law17_1 {d : D} (g : Okd d) (f6 : Fre c6) (f7 : Fre c7) : ∃ c6' c7', Fre c6' ∧ Fre c7' ∧ L_law_1 [S, K, A, c3, c4, c5, c6, c7, .val d] = .nx [S, K, A, c3, c4, c5, c6', c7', .val d] := by
  rcases g with ⟨x, rfl, ha, hl⟩ | h
  · obtain ⟨o, R⟩ := read_both ha (by omega)
    have h1 := R.due
    have h2 := R.prog
    cases o with
    | none => exact ⟨_, _, Fre.v, Fre.v, l1_none h1 h2 f6 f7⟩
    | some p => exact ⟨_, _, Fre.v, Fre.v, l1_some (T := trk p.1 p.2) (trk_ok p.1 p.2) rfl h1 h2 f6 f7⟩
  · exact ⟨_, _, Fre.v, Fre.v, l1_none (nonstr_due h) (nonstr_prog h) f6 f7⟩
theorem law17_loop : ∀ (ds : List D) (c6 c7 c8 : Cell), (∀ d ∈ ds, Okd d) → Fre c6 → Fre c7 → Fre c8 → ∃ c6' c7' c8', Fre c6' ∧ Fre c7' ∧ Fre c8' ∧ forL (gN 8) L_law_1 ds [S, K, A, c3, c4, c5, c6, c7, c8] = .nx [S, K, A, c3, c4, c5, c6', c7', c8']
  | [], c6, c7, c8, _, f6, f7, f8 => ⟨c6, c7, c8, f6, f7, f8, rfl⟩
  | d :: ds, c6, c7, c8, h, f6, f7, f8 => by
    obtain ⟨b6, b7, g6, g7, e1⟩ := law17_1 (S := S) (K := K) (A := A) (c3 := c3) (c4 := c4) (c5 := c5) (h d (List.mem_cons_self ..)) f6 f7
    obtain ⟨a6, a7, a8, h6, h7, h8, e2⟩ := law17_loop ds b6 b7 (.val d) (fun e he => h e (List.mem_cons_of_mem _ he)) g6 g7 Fre.v
    refine ⟨a6, a7, a8, h6, h7, h8, ?_⟩
    exact (forL_nx (ρ1 := [S, K, A, c3, c4, c5, c6, c7, .val d]) (by simp [f8.can]) e1).trans e2
/-! the steps of a cell -/
variable {l l1 l2 l3 l4 l5 : List D} {x y z u v w : Str}
theorem st17_1 {s k : D} (n2 : Cn A) (h : M__law_sack [.val s, .val k] = .ok (.new (.lst l)) [.val s, .val k]) {c8 : Cell} : setN 2 (callF M__law_sack (consA (vE 0) (consA (vE 1) (nilA)))) [.val s, .val k, A, c3, c4, c5, c6, c7, c8] = .nx [.val s, .val k, .own false (.lst l), c3, c4, c5, c6, c7, c8] := by
  have n2' : canC (some A) = true := n2
  simp [h, n2']
theorem st17_2 {T : D} {c8 : Cell} (f3 : Fre c3) (h : ∀ p, M__law_trick [.own p (.lst l), .val (.int 10), .val (.int 8)] = .ok (.val T) [.own p (.lst l1), .val (.int 10), .val (.int 8)]) (ht : M__law_text_of [.val T] = .ok (.val (.str x)) [.val T]) :
    setF 3 (callF M__law_text_of (consA (callF M__law_trick (consA (vE 2) (consA (cE (.int 10)) (consA (cE (.int 8)) (nilA))))) (nilA))) [S, K, .own false (.lst l), c3, c4, c5, c6, c7, c8] = .nx [S, K, .own false (.lst l1), .val (.str x), c4, c5, c6, c7, c8] := by
  simp [h, ht, f3.can]
theorem st17_3 {c8 : Cell} (f4 : Fre c4) (h : ∀ p, M__law_spoil [.own p (.lst l), .val (.str x)] = .ok (.val (.str y)) [.own p (.lst l1), .val (.str x)]) : setF 4 (callF M__law_spoil (consA (vE 2) (consA (vE 3) (nilA)))) [S, K, .own false (.lst l), .val (.str x), c4, c5, c6, c7, c8] = .nx [S, K, .own false (.lst l1), .val (.str x), .val (.str y), c5, c6, c7, c8] := by
  simp [h, f4.can]
theorem st17_4 {c8 : Cell} (n5 : Cn c5) (h1 : ∀ p, M__law_spoil [.own p (.lst l), .val (.str y)] = .ok (.val (.str z)) [.own p (.lst l1), .val (.str y)]) (h2 : ∀ p, M__law_spoil [.own p (.lst l1), .val (.str x)] = .ok (.val (.str u)) [.own p (.lst l2), .val (.str x)]) (h3 : ∀ p, M__law_spoil [.own p (.lst l2), .val (.str x)] = .ok (.val (.str v)) [.own p (.lst l3), .val (.str x)]) (hu : upperD (.str x) = some (.val (.str w))) :
    setN 5 (lstE (consA (vE 3) (consA (vE 4) (consA (callF M__law_spoil (consA (vE 2) (consA (vE 4) (nilA)))) (consA (callF M__law_spoil (consA (vE 2) (consA (vE 3) (nilA)))) (consA (callF M__law_spoil (consA (vE 2) (consA (vE 3) (nilA)))) (consA (unE upperD (vE 3)) (nilA)))))))) [S, K, .own false (.lst l), .val (.str x), .val (.str y), c5, c6, c7, c8] = .nx [S, K, .own false (.lst l3), .val (.str x), .val (.str y), .own false (.lst [.str x, .str y, .str z, .str u, .str v, .str w]), c6, c7, c8] := by
  have n5' : canC (some c5) = true := n5
  simp [h1, h2, h3, hu, n5']
def litsA : List D := [.str "", .str "think", .str "think\n", .str "think\nadd 0 one", .str "think\nadd -0 one", .str "think\nadd +1 one"]
def litsB : List D := [.str "think\nroot\nroot", .str "think\nroot\ntimes 2", .str "think\nrest 21"]
theorem lits_ok : ∀ d ∈ litsA ++ litsB ++ [.str "think\nshare 12\nshare 4"], Okd d := okd_bs (by decide +kernel)
theorem st17_5 {c8 : Cell} {T : List D} (hT : T.length ≤ 1000) : setN 5 (binE addD (vE 5) (lstE (consA (cE (.str "")) (consA (cE (.str "think")) (consA (cE (.str "think\n")) (consA (cE (.str "think\nadd 0 one")) (consA (cE (.str "think\nadd -0 one")) (consA (cE (.str "think\nadd +1 one")) (nilA))))))))) [S, K, A, c3, c4, .own false (.lst T), c6, c7, c8] = .nx [S, K, A, c3, c4, .own false (.lst (T ++ litsA)), c6, c7, c8] := by
  have z : T.length + 6 ≤ 16777216 := by omega
  simp [litsA, z]
theorem st17_6 {c8 : Cell} {T : List D} (hT : T.length ≤ 1000) : setN 5 (binE addD (vE 5) (lstE (consA (cE (.str "think\nroot\nroot")) (consA (cE (.str "think\nroot\ntimes 2")) (consA (cE (.str "think\nrest 21")) (nilA)))))) [S, K, A, c3, c4, .own false (.lst T), c6, c7, c8] = .nx [S, K, A, c3, c4, .own false (.lst (T ++ litsB)), c6, c7, c8] := by
  have z : T.length + 3 ≤ 16777216 := by omega
  simp [litsB, z]
theorem st17_7 {c8 : Cell} {T : List D} (hT : T.length ≤ 1000) : appSt 5 (cE (.str "think\nshare 12\nshare 4")) [S, K, A, c3, c4, .own false (.lst T), c6, c7, c8] = .nx [S, K, A, c3, c4, .own false (.lst (T ++ [.str "think\nshare 12\nshare 4"])), c6, c7, c8] := by
  have z : T.length < 16777216 := by omega
  simp [z]
theorem st17_8 {c8 : Cell} {T : List D} {d : D} (hT : T.length ≤ 1000) (h : ∀ p, M__law_stuff [.own p (.lst l), .val (.int 2)] = .ok (.val d) [.own p (.lst l1), .val (.int 2)]) : appSt 5 (callF M__law_stuff (consA (vE 2) (consA (cE (.int 2)) (nilA)))) [S, K, .own false (.lst l), c3, c4, .own false (.lst T), c6, c7, c8] = .nx [S, K, .own false (.lst l1), c3, c4, .own false (.lst (T ++ [d])), c6, c7, c8] := by
  have z : T.length < 16777216 := by omega
  simp [z, h]
theorem st17_9 {c8 : Cell} {T : List D} : seqI (vE 5) [S, K, A, c3, c4, .own false (.lst T), c6, c7, c8] = .ok T [S, K, A, c3, c4, .val (.lst T), c6, c7, c8] := by
  simp
end
def I17 (ns : List Int) (ρ : Rho) : Prop := ∃ c1 c2 c3 c4 c5 c6 c7 c8, Fre c1 ∧ Cn c2 ∧ Fre c3 ∧ Fre c4 ∧ Cn c5 ∧ Fre c6 ∧ Fre c7 ∧ Fre c8 ∧ ρ = [.val (.scr ns), c1, c2, c3, c4, c5, c6, c7, c8]
theorem okd_str {x : Str} (h : Asc x) (hl : x.length ≤ 100000) : Okd (.str x) := .inl ⟨x, rfl, h, hl⟩
theorem turn17 {ns : List Int} {k : Nat} (hk : k < 1000) {ρ : Rho} (h : I17 ns ρ) : ∃ ρ1 ρ', gN 1 (.int k) ρ = some ρ1 ∧ L_law_2 ρ1 = .nx ρ' ∧ I17 ns ρ' := by
  obtain ⟨c1, c2, c3, c4, c5, c6, c7, c8, f1, n2, f3, f4, n5, f6, f7, f8, rfl⟩ := h
  obtain ⟨s1, k1, e1⟩ := sack_ok (ns := ns) hk
  obtain ⟨ss, en, s2, ht, hl, k2, e2⟩ := trick_ok (b := 10) k1 (m := 8) (by omega) (by omega)
  have xa := textS_asc ht
  have xl := textS_len ht
  have tx := law_text_ok ht
  generalize textS ss en = x at xa xl tx
  obtain ⟨y, s3, k3, y1, e3⟩ := spoil_ok k2 xa (by omega)
  have yl := y1.len
  obtain ⟨z, s4, k4, z1, e4⟩ := spoil_ok k3 y1.asc (by omega)
  have zl := z1.len
  obtain ⟨u, s5, k5, u1, e5⟩ := spoil_ok k4 xa (by omega)
  have ul := u1.len
  obtain ⟨v, s6, k6, v1, e6⟩ := spoil_ok k5 xa (by omega)
  have vl := v1.len
  obtain ⟨w, e7, w1, wl⟩ := upper_ok xa (by omega)
  obtain ⟨d, s7, k7, d1, e8⟩ := stuff_ok k6
  have F1 := st17_1 (c3 := c3) (c4 := c4) (c5 := c5) (c6 := c6) (c7 := c7) (c8 := c8) n2 e1
  have F2 := st17_2 (S := .val (.scr ns)) (K := .val (.int k)) (c4 := c4) (c5 := c5) (c6 := c6) (c7 := c7) (c8 := c8) f3 e2 tx
  have F3 := st17_3 (S := .val (.scr ns)) (K := .val (.int k)) (c5 := c5) (c6 := c6) (c7 := c7) (c8 := c8) f4 e3
  have F4 := st17_4 (S := .val (.scr ns)) (K := .val (.int k)) (c6 := c6) (c7 := c7) (c8 := c8) n5 e4 e5 e6 e7
  have F5 := st17_5 (S := .val (.scr ns)) (K := .val (.int k)) (A := .own false (.lst s6)) (c3 := .val (.str x)) (c4 := .val (.str y)) (c6 := c6) (c7 := c7) (c8 := c8) (T := [.str x, .str y, .str z, .str u, .str v, .str w]) (by simp)
  have F6 := st17_6 (S := .val (.scr ns)) (K := .val (.int k)) (A := .own false (.lst s6)) (c3 := .val (.str x)) (c4 := .val (.str y)) (c6 := c6) (c7 := c7) (c8 := c8) (T := [.str x, .str y, .str z, .str u, .str v, .str w] ++ litsA) (by simp [litsA])
  have F7 := st17_7 (S := .val (.scr ns)) (K := .val (.int k)) (A := .own false (.lst s6)) (c3 := .val (.str x)) (c4 := .val (.str y)) (c6 := c6) (c7 := c7) (c8 := c8) (T := [.str x, .str y, .str z, .str u, .str v, .str w] ++ litsA ++ litsB) (by simp [litsA, litsB])
  have F8 := st17_8 (S := .val (.scr ns)) (K := .val (.int k)) (c3 := .val (.str x)) (c4 := .val (.str y)) (c6 := c6) (c7 := c7) (c8 := c8) (T := [.str x, .str y, .str z, .str u, .str v, .str w] ++ litsA ++ litsB ++ [.str "think\nshare 12\nshare 4"]) (by simp [litsA, litsB]) e8
  have all : ∀ e ∈ [D.str x, .str y, .str z, .str u, .str v, .str w] ++ litsA ++ litsB ++ [.str "think\nshare 12\nshare 4"] ++ [d], Okd e := fun e he => by
    rcases List.mem_append.mp he with he | he
    · have he' : e ∈ [D.str x, .str y, .str z, .str u, .str v, .str w] ++ (litsA ++ litsB ++ [.str "think\nshare 12\nshare 4"]) := by
        simpa only [List.append_assoc] using he
      rcases List.mem_append.mp he' with he | he
      · simp only [List.mem_cons, List.not_mem_nil, or_false] at he
        rcases he with rfl | rfl | rfl | rfl | rfl | rfl
        · exact okd_str xa (by omega)
        · exact okd_str y1.asc (by omega)
        · exact okd_str z1.asc (by omega)
        · exact okd_str u1.asc (by omega)
        · exact okd_str v1.asc (by omega)
        · exact okd_str w1 (by omega)
      · exact lits_ok e he
    · rw [List.mem_singleton.mp he]; exact d1
  generalize [D.str x, .str y, .str z, .str u, .str v, .str w] ++ litsA ++ litsB ++ [.str "think\nshare 12\nshare 4"] ++ [d] = T at F8 all
  obtain ⟨a6, a7, a8, g6, g7, g8, lp⟩ := law17_loop (S := .val (.scr ns)) (K := .val (.int k)) (A := .own false (.lst s7)) (c3 := .val (.str x)) (c4 := .val (.str y)) (c5 := .val (.lst T)) T c6 c7 c8 all f6 f7 f8
  have F9 : forS (seqI (vE 5)) (gN 8) L_law_1 [.val (.scr ns), .val (.int k), .own false (.lst s7), .val (.str x), .val (.str y), .own false (.lst T), c6, c7, c8] = .nx [.val (.scr ns), .val (.int k), .own false (.lst s7), .val (.str x), .val (.str y), .val (.lst T), a6, a7, a8] := by
    rw [x_for, st17_9]
    exact lp
  refine ⟨[.val (.scr ns), .val (.int k), c2, c3, c4, c5, c6, c7, c8], [.val (.scr ns), .val (.int k), .own false (.lst s7), .val (.str x), .val (.str y), .val (.lst T), a6, a7, a8], by simp [f1.can], ?_, ⟨_, _, _, _, _, _, _, _, Fre.v (d := .int k), cnO (l := s7), Fre.v (d := .str x), Fre.v (d := .str y), cnV (d := .lst T), g6, g7, g8, rfl⟩⟩
  unfold L_law_2
  rw [seq_nx F1, seq_nx F2, seq_nx F3, seq_nx F4, seq_nx F5, seq_nx F6, seq_nx F7, seq_nx F8]
  exact F9
/-! the last look -/
theorem last17 : M_read_trick [.val (.str "think\nadd -1 turned\nroot")] = .ok (.val (.tup [.tup [.tup [.str "add", .int (-1), .str "turned"]], .tup [.str "root"]])) [.val (.str "think\nadd -1 turned\nroot")] := by kernel_rfl
theorem end_frame {ρ : Rho} : retS (binE eqD (callF M_read_trick (consA (cE (.str "think\nadd -1 turned\nroot")) (nilA))) (tupE (consA (tupE (consA (tupE (consA (cE (.str "add")) (consA (unE negD (cE (.int 1))) (consA (cE (.str "turned")) (nilA))))) (nilA))) (consA (tupE (consA (cE (.str "root")) (nilA))) (nilA))))) ρ = .rt (.val (.bl true)) ρ := by
  have q1 : eqD (.tup [.tup [.tup [.str "add", .int (-1), .str "turned"]], .tup [.str "root"]]) (.tup [.tup [.tup [.str "add", .int (-1), .str "turned"]], .tup [.str "root"]]) = vB true := eqD_rfl (by decide +kernel)
  simp [last17, q1]
theorem plain_law (ns : List Int) : M_law [.val (.scr ns)] = .ok (.val (.bl true)) [.val (.scr ns)] := by
  obtain ⟨n, hn, r1⟩ := turns_of (ns := ns) (ρ := [.val (.scr ns), .un, .un, .un, .un, .un, .un, .un, .un]) (m := 15) (i := 0) rfl (by decide)
  obtain ⟨ρ', e, c1, c2, c3, c4, c5, c6, c7, c8, f1, n2, f3, f4, n5, f6, f7, f8, rfl⟩ := forL_invM (gt := gN 1) (b := L_law_2) (I := I17 ns) (intsD 0 n) [.val (.scr ns), .un, .un, .un, .un, .un, .un, .un, .un] (fun d hd ρ h => by
    obtain ⟨k, hk, rfl⟩ := mem_intsD hd
    exact turn17 (by omega) h) ⟨_, _, _, _, _, _, _, _, Fre.u, cnU, Fre.u, Fre.u, cnU, Fre.u, Fre.u, Fre.u, rfl⟩
  have st : M_law [.val (.scr ns)] = finR [.val (.scr ns)] (B_law [.val (.scr ns), .un, .un, .un, .un, .un, .un, .un, .un]) := rfl
  rw [st]
  unfold B_law
  rw [seq_nx (by rw [x_for, r1]; exact e), end_frame]
  simp
theorem x_isX {a : Addr} {n : Str} {b : Bool} {c : List Cell} : isXE a n b 0 (.val (.exc n a) :: c) = .ok (.val (.bl b)) (.val (.exc n a) :: c) := by
  show (if n = n ∧ a = a then _ else _) = _
  rw [if_pos ⟨rfl, rfl⟩]
def K2 (n : Str) (a : Addr) : Sv := (seqS (setF 2 (lstE (consA (cE (.str "Broken")) (consA (cE (.str "InvalidBase")) (consA (cE (.str "InvalidBy")) (consA (cE (.str "InvalidIndex")) (consA (cE (.str "InvalidLength")) (consA (cE (.str "InvalidNumber")) (consA (cE (.str "InvalidStep")) (nilA)))))))))) (seqS (setF 2 (binE addD (vE 2) (lstE (consA (cE (.str "InvalidThing")) (consA (cE (.str "InvalidTrick")) (consA (cE (.str "InvalidWish")) (consA (cE (.str "NoText")) (consA (cE (.str "NoTrick")) (consA (cE (.str "NotWhole")) (nilA)))))))))) (seqS (setF 2 (binE addD (vE 2) (lstE (consA (cE (.str "NothingToUndo")) (consA (cE (.str "TooMany")) (consA (cE (.str "Unlike")) (consA (cE (.str "+")) (nilA)))))))) (retS (mthE joinD (cE (.str " ")) (lcE (zipLI (consA (vE 2) (consA (vE 1) (nilA)))) (gT [gN 3, gN 4]) (valT (vE 4)) (vE 3) [3, 4]))))))
def clsL : List Str := ["Broken", "InvalidBase", "InvalidBy", "InvalidIndex", "InvalidLength", "InvalidNumber", "InvalidStep", "InvalidThing", "InvalidTrick", "InvalidWish", "NoText", "NoTrick", "NotWhole", "NothingToUndo", "TooMany", "Unlike"]
def ksL (n : Str) : List D := clsL.map fun y => .bl (decide (n = y))
theorem kinds_go {n : Str} {a : Addr} (hn : errs.contains n = true) (hj : finR [.val (.exc n a)] (K2 n a [.val (.exc n a), .own false (.lst (ksL n ++ [.bl true])), .un, .un, .un]) = .ok (.val (.str (n ++ " +"))) [.val (.exc n a)]) :
    M__law_kinds n a [.val (.exc n a)] = .ok (.val (.str (n ++ " +"))) [.val (.exc n a)] := by
  simp only [M__law_kinds, K__law_kinds, hn, if_true, x_run, List.length_singleton, x_start, List.map_cons, List.map_nil, x_arg2, List.replicate, List.cons_append, List.nil_append]
  rw [← hj]
  congr 1
  unfold B__law_kinds
  iterate 6 refine (seq_nx (by simp [x_isX]; rfl)).trans ?_
  rfl
theorem kinds_ok : ∀ n ∈ errs, ∀ a, M__law_kinds n a [.val (.exc n a)] = .ok (.val (.str (n ++ " +"))) [.val (.exc n a)] := by
  intro n hn a
  have hc : errs.contains n = true := by simpa using hn
  simp only [errs, List.mem_cons, List.not_mem_nil, or_false] at hn
  rcases hn with rfl | rfl | rfl | rfl | rfl | rfl | rfl | rfl | rfl | rfl | rfl | rfl | rfl | rfl | rfl <;> exact kinds_go hc (by kernel_rfl)
end LW
namespace LW
open PySem PySem.Spec PyProof.Rows L2 FX
structure Facts (g : G) (base : Heap) : Prop where
  n_ValueError : g.mg "ValueError" = none
  n_abs : g.mg "abs" = none
  n_all : g.mg "all" = none
  n_bool : g.mg "bool" = none
  n_int : g.mg "int" = none
  n_isinstance : g.mg "isinstance" = none
  n_len : g.mg "len" = none
  n_max : g.mg "max" = none
  n_min : g.mg "min" = none
  n_range : g.mg "range" = none
  n_str : g.mg "str" = none
  n_tuple : g.mg "tuple" = none
  n_zip : g.mg "zip" = none
  G_is_int : g.mg "is_int" = some (.ref (He.fAd g.K d_is_int.at_))
  F_is_int : ∃ fd, FunD g.K d_is_int.name d_is_int.qual d_is_int.params d_is_int.body d_is_int.scope [] [] (He.fAd g.K d_is_int.at_) fd
  G_is_thing : g.mg "is_thing" = some (.ref (He.fAd g.K d_is_thing.at_))
  F_is_thing : ∃ fd, FunD g.K d_is_thing.name d_is_thing.qual d_is_thing.params d_is_thing.body d_is_thing.scope [] [] (He.fAd g.K d_is_thing.at_) fd
  G_is_step : g.mg "is_step" = some (.ref (He.fAd g.K d_is_step.at_))
  F_is_step : ∃ fd, FunD g.K d_is_step.name d_is_step.qual d_is_step.params d_is_step.body d_is_step.scope [] [] (He.fAd g.K d_is_step.at_) fd
  G_is_end : g.mg "is_end" = some (.ref (He.fAd g.K d_is_end.at_))
  F_is_end : ∃ fd, FunD g.K d_is_end.name d_is_end.qual d_is_end.params d_is_end.body d_is_end.scope [] [] (He.fAd g.K d_is_end.at_) fd
  G_shared_by : g.mg "shared_by" = some (.ref (He.fAd g.K d_shared_by.at_))
  F_shared_by : ∃ fd, FunD g.K d_shared_by.name d_shared_by.qual d_shared_by.params d_shared_by.body d_shared_by.scope [] [] (He.fAd g.K d_shared_by.at_) fd
  G_is_trick : g.mg "is_trick" = some (.ref (He.fAd g.K d_is_trick.at_))
  F_is_trick : ∃ fd, FunD g.K d_is_trick.name d_is_trick.qual d_is_trick.params d_is_trick.body d_is_trick.scope [] [] (He.fAd g.K d_is_trick.at_) fd
  G_line_of : g.mg "line_of" = some (.ref (He.fAd g.K d_line_of.at_))
  F_line_of : ∃ fd, FunD g.K d_line_of.name d_line_of.qual d_line_of.params d_line_of.body d_line_of.scope [] [] (He.fAd g.K d_line_of.at_) fd
  G_text_of : g.mg "text_of" = some (.ref (He.fAd g.K d_text_of.at_))
  F_text_of : ∃ fd, FunD g.K d_text_of.name d_text_of.qual d_text_of.params d_text_of.body d_text_of.scope [] [] (He.fAd g.K d_text_of.at_) fd
  G_item_in : g.mg "item_in" = some (.ref (He.fAd g.K d_item_in.at_))
  F_item_in : ∃ fd, FunD g.K d_item_in.name d_item_in.qual d_item_in.params d_item_in.body d_item_in.scope [] [] (He.fAd g.K d_item_in.at_) fd
  G_items_in : g.mg "items_in" = some (.ref (He.fAd g.K d_items_in.at_))
  F_items_in : ∃ fd, FunD g.K d_items_in.name d_items_in.qual d_items_in.params d_items_in.body d_items_in.scope [] [] (He.fAd g.K d_items_in.at_) fd
  G_trick_in : g.mg "trick_in" = some (.ref (He.fAd g.K d_trick_in.at_))
  F_trick_in : ∃ fd, FunD g.K d_trick_in.name d_trick_in.qual d_trick_in.params d_trick_in.body d_trick_in.scope [] [] (He.fAd g.K d_trick_in.at_) fd
  G_read_trick : g.mg "read_trick" = some (.ref (He.fAd g.K d_read_trick.at_))
  F_read_trick : ∃ fd, FunD g.K d_read_trick.name d_read_trick.qual d_read_trick.params d_read_trick.body d_read_trick.scope [] [] (He.fAd g.K d_read_trick.at_) fd
  G__law_sack : g.mg "_law_sack" = some (.ref (He.fAd g.K d__law_sack.at_))
  F__law_sack : ∃ fd, FunD g.K d__law_sack.name d__law_sack.qual d__law_sack.params d__law_sack.body d__law_sack.scope [] [] (He.fAd g.K d__law_sack.at_) fd
  G__law_grab : g.mg "_law_grab" = some (.ref (He.fAd g.K d__law_grab.at_))
  F__law_grab : ∃ fd, FunD g.K d__law_grab.name d__law_grab.qual d__law_grab.params d__law_grab.body d__law_grab.scope [] [] (He.fAd g.K d__law_grab.at_) fd
  G__law_any : g.mg "_law_any" = some (.ref (He.fAd g.K d__law_any.at_))
  F__law_any : ∃ fd, FunD g.K d__law_any.name d__law_any.qual d__law_any.params d__law_any.body d__law_any.scope [] [] (He.fAd g.K d__law_any.at_) fd
  G__law_words : g.mg "_law_words" = some (.ref (He.fAd g.K d__law_words.at_))
  F__law_words : ∃ fd, FunD g.K d__law_words.name d__law_words.qual d__law_words.params d__law_words.body d__law_words.scope [] [] (He.fAd g.K d__law_words.at_) fd
  G__law_step : g.mg "_law_step" = some (.ref (He.fAd g.K d__law_step.at_))
  F__law_step : ∃ fd, FunD g.K d__law_step.name d__law_step.qual d__law_step.params d__law_step.body d__law_step.scope [] [] (He.fAd g.K d__law_step.at_) fd
  G__law_product : g.mg "_law_product" = some (.ref (He.fAd g.K d__law_product.at_))
  F__law_product : ∃ fd, FunD g.K d__law_product.name d__law_product.qual d__law_product.params d__law_product.body d__law_product.scope [] [] (He.fAd g.K d__law_product.at_) fd
  G__law_trick : g.mg "_law_trick" = some (.ref (He.fAd g.K d__law_trick.at_))
  F__law_trick : ∃ fd, FunD g.K d__law_trick.name d__law_trick.qual d__law_trick.params d__law_trick.body d__law_trick.scope [] [] (He.fAd g.K d__law_trick.at_) fd
  G__law_tail : g.mg "_law_tail" = some (.ref (He.fAd g.K d__law_tail.at_))
  F__law_tail : ∃ fd, FunD g.K d__law_tail.name d__law_tail.qual d__law_tail.params d__law_tail.body d__law_tail.scope [] [] (He.fAd g.K d__law_tail.at_) fd
  G__law_is_whole : g.mg "_law_is_whole" = some (.ref (He.fAd g.K d__law_is_whole.at_))
  F__law_is_whole : ∃ fd, FunD g.K d__law_is_whole.name d__law_is_whole.qual d__law_is_whole.params d__law_is_whole.body d__law_is_whole.scope [] [] (He.fAd g.K d__law_is_whole.at_) fd
  G__law_is_step : g.mg "_law_is_step" = some (.ref (He.fAd g.K d__law_is_step.at_))
  F__law_is_step : ∃ fd, FunD g.K d__law_is_step.name d__law_is_step.qual d__law_is_step.params d__law_is_step.body d__law_is_step.scope [] [] (He.fAd g.K d__law_is_step.at_) fd
  G__law_is_end : g.mg "_law_is_end" = some (.ref (He.fAd g.K d__law_is_end.at_))
  F__law_is_end : ∃ fd, FunD g.K d__law_is_end.name d__law_is_end.qual d__law_is_end.params d__law_is_end.body d__law_is_end.scope [] [] (He.fAd g.K d__law_is_end.at_) fd
  G__law_is_trick : g.mg "_law_is_trick" = some (.ref (He.fAd g.K d__law_is_trick.at_))
  F__law_is_trick : ∃ fd, FunD g.K d__law_is_trick.name d__law_is_trick.qual d__law_is_trick.params d__law_is_trick.body d__law_is_trick.scope [] [] (He.fAd g.K d__law_is_trick.at_) fd
  G__law_stuff : g.mg "_law_stuff" = some (.ref (He.fAd g.K d__law_stuff.at_))
  F__law_stuff : ∃ fd, FunD g.K d__law_stuff.name d__law_stuff.qual d__law_stuff.params d__law_stuff.body d__law_stuff.scope [] [] (He.fAd g.K d__law_stuff.at_) fd
  G__law_kinds : g.mg "_law_kinds" = some (.ref (He.fAd g.K d__law_kinds.at_))
  F__law_kinds : ∃ fd, FunD g.K d__law_kinds.name d__law_kinds.qual d__law_kinds.params d__law_kinds.body d__law_kinds.scope [] [] (He.fAd g.K d__law_kinds.at_) fd
  G__law_call : g.mg "_law_call" = some (.ref (He.fAd g.K d__law_call.at_))
  F__law_call : ∃ fd, FunD g.K d__law_call.name d__law_call.qual d__law_call.params d__law_call.body d__law_call.scope [] [] (He.fAd g.K d__law_call.at_) fd
  G__law_text_of : g.mg "_law_text_of" = some (.ref (He.fAd g.K d__law_text_of.at_))
  F__law_text_of : ∃ fd, FunD g.K d__law_text_of.name d__law_text_of.qual d__law_text_of.params d__law_text_of.body d__law_text_of.scope [] [] (He.fAd g.K d__law_text_of.at_) fd
  G__law_item : g.mg "_law_item" = some (.ref (He.fAd g.K d__law_item.at_))
  F__law_item : ∃ fd, FunD g.K d__law_item.name d__law_item.qual d__law_item.params d__law_item.body d__law_item.scope [] [] (He.fAd g.K d__law_item.at_) fd
  G__law_due : g.mg "_law_due" = some (.ref (He.fAd g.K d__law_due.at_))
  F__law_due : ∃ fd, FunD g.K d__law_due.name d__law_due.qual d__law_due.params d__law_due.body d__law_due.scope [] [] (He.fAd g.K d__law_due.at_) fd
  G__law_spoil : g.mg "_law_spoil" = some (.ref (He.fAd g.K d__law_spoil.at_))
  F__law_spoil : ∃ fd, FunD g.K d__law_spoil.name d__law_spoil.qual d__law_spoil.params d__law_spoil.body d__law_spoil.scope [] [] (He.fAd g.K d__law_spoil.at_) fd
  G_law : g.mg "law" = some (.ref (He.fAd g.K d_law.at_))
  F_law : ∃ fd, FunD g.K d_law.name d_law.qual d_law.params d_law.body d_law.scope [] [] (He.fAd g.K d_law.at_) fd
  G_TooMany : g.mg "TooMany" = some (.ref (He.ga g.K "TooMany"))
  G_ThinkError : g.mg "ThinkError" = some (.ref (He.ga g.K "ThinkError"))
  C_THINGS : g.mg "THINGS" = some (.ref (He.ga g.K "THINGS")) ∧ He.tupB g.K "THINGS" (((["number", "turned", "sum", "first", "last", "one"] : List Str)).map He.Dv.str) = true
  C_MOST_STEPS : ∃ t, g.mg "MOST_STEPS" = some (.int 8 t)
  C_MOST_SHARED : ∃ t, g.mg "MOST_SHARED" = some (.int 36 t)
  C_FIGURES : ∃ t, g.mg "FIGURES" = some (.str "0123456789" t)
  L_law : ∀ X : Cx, X.base = base → X.mg = g.mg → X.env.code = .ref (He.codeOf g.K d_law.at_) → X.env.qual ++ "<lambda>" = "law.<locals>.<lambda>" → LamMk g X
section
variable {g : G} {P : Program} {w : World} {base : Heap}
theorem Facts.e_THINGS (c : Facts g base) {X : Cx} {Z : WX} {p : Pos} (hg : Gl X "THINGS") (hM : X.mg = g.mg := by rfl) : FE g X Z (.Name "THINGS" p) (cE (.tup [.str "number", .str "turned", .str "sum", .str "first", .str "last", .str "one"])) := fe_tupK hg c.C_THINGS.1 (fun F => He.tupB_ok c.C_THINGS.2 F) (fun F => rpl_strs ["number", "turned", "sum", "first", "last", "one"]) hM
theorem Facts.e_MOST_STEPS (c : Facts g base) {X : Cx} {Z : WX} {p : Pos} (hg : Gl X "MOST_STEPS") (hM : X.mg = g.mg := by rfl) : FE g X Z (.Name "MOST_STEPS" p) (cE (.int 8)) := fe_intK hg c.C_MOST_STEPS hM
theorem Facts.e_MOST_SHARED (c : Facts g base) {X : Cx} {Z : WX} {p : Pos} (hg : Gl X "MOST_SHARED") (hM : X.mg = g.mg := by rfl) : FE g X Z (.Name "MOST_SHARED" p) (cE (.int 36)) := fe_intK hg c.C_MOST_SHARED hM
theorem Facts.e_FIGURES (c : Facts g base) {X : Cx} {Z : WX} {p : Pos} (hg : Gl X "FIGURES") (hM : X.mg = g.mg := by rfl) : FE g X Z (.Name "FIGURES" p) (cE (.str "0123456789")) := fe_strK hg c.C_FIGURES hM
theorem ok_is_int (c : Facts g base)  : Fn g P w base 1 "is_int" 3 M_is_int := by
  obtain ⟨fd, F⟩ := c.F_is_int
  have S : FnScope (["value", "low", "high"] : List Str) ["value", "low", "high"] d_is_int.scope := ⟨rfl, rfl, rfl, by decide +kernel, rfl, by decide +kernel, by decide +kernel⟩
  refine fn_mk F c.G_is_int S (F.bindsN fun _ _ _ _ _ _ us hl => match us, hl with | [_, _, _], _ => rfl) rfl rfl (fun cdv A outer s H E hcd hr => ?_)
  exact fss_one (fs_ret (fe_and (fe_isi c.n_isinstance c.n_int (fv 0)) (fe_and (fe_not (fe_isi c.n_isinstance c.n_bool (fv 0))) (fe_one (fe_chain op_le sr_cmp op_le sr_cmp (fv 1) (fv 0) (fv 2))))))
theorem ok_is_thing (c : Facts g base)  : Fn g P w base 1 "is_thing" 1 M_is_thing := by
  obtain ⟨fd, F⟩ := c.F_is_thing
  have S : FnScope (["value"] : List Str) ["value"] d_is_thing.scope := ⟨rfl, rfl, rfl, by decide +kernel, rfl, by decide +kernel, by decide +kernel⟩
  refine fn_mk F c.G_is_thing S (F.bindsN fun _ _ _ _ _ _ us hl => match us, hl with | [_], _ => rfl) rfl rfl (fun cdv A outer s H E hcd hr => ?_)
  exact fss_one (fs_ret (fe_and (fe_isi c.n_isinstance c.n_str (fv 0)) (fe_one (fe_cmp op_in_seq sr_in (fv 0) ((c.e_THINGS rfl))))))
theorem ok_is_step (c : Facts g base) (h_is_int : Fn g P w base 1 "is_int" 3 M_is_int) (h_is_thing : Fn g P w base 1 "is_thing" 1 M_is_thing) : Fn g P w base 2 "is_step" 1 M_is_step := by
  obtain ⟨fd, F⟩ := c.F_is_step
  have S : FnScope (["value"] : List Str) ["value"] d_is_step.scope := ⟨rfl, rfl, rfl, by decide +kernel, rfl, by decide +kernel, by decide +kernel⟩
  refine fn_mk F c.G_is_step S (F.bindsN fun _ _ _ _ _ _ us hl => match us, hl with | [_], _ => rfl) rfl rfl (fun cdv A outer s H E hcd hr => ?_)
  exact fss_cons (fs_if (ft_w (fw_or (ft_not (ft_val (fe_isi c.n_isinstance c.n_tuple (fv 0)))) (fw_or (ft_not (ft_chain op_le sr_cmp op_le sr_cmp (fe_int) (fe_blt call_len sc_len c.n_len (fa_cons (fv 0) (fa_nil))) (fe_int))) (fw_or1 (ft_not (ft_val (fe_isi c.n_isinstance c.n_str (fe_ix ix_seq sr_ix (fv 0) (fe_int))))))))) (fss_one (fs_ret (fe_bl))) (fss_nil)) (fss_cons (fs_if (ft_cmp (op_eqX hr.units) sr_eq (fe_ix ix_seq sr_ix (fv 0) (fe_int)) (fe_str)) (fss_one (fs_ret (fe_and (fe_cmp (op_eqX hr.units) sr_eq (fe_blt call_len sc_len c.n_len (fa_cons (fv 0) (fa_nil))) (fe_int)) (fe_and (fe_call (h_is_int.mono (by decide)) hr tkD (fa_cons (fe_ix ix_seq sr_ix (fv 0) (fe_int)) (fa_cons (fe_un un_neg su_neg (fe_int)) (fa_cons (fe_int) (fa_nil))))) (fe_and (fe_cmp (op_neX hr.units) sr_ne (fe_ix ix_seq sr_ix (fv 0) (fe_int)) (fe_int)) (fe_one (fe_call (h_is_thing.mono (by decide)) hr tkD (fa_cons (fe_ix ix_seq sr_ix (fv 0) (fe_int)) (fa_nil))))))))) (fss_nil)) (fss_one (fs_ret (fe_and (fe_cmp op_in_seq sr_in (fe_ix ix_seq sr_ix (fv 0) (fe_int)) (fe_tup (fa_cons (fe_str) (fa_cons (fe_str) (fa_nil))))) (fe_and (fe_cmp (op_eqX hr.units) sr_eq (fe_blt call_len sc_len c.n_len (fa_cons (fv 0) (fa_nil))) (fe_int)) (fe_one (fe_call (h_is_int.mono (by decide)) hr tkD (fa_cons (fe_ix ix_seq sr_ix (fv 0) (fe_int)) (fa_cons (fe_int) (fa_cons (fe_int) (fa_nil)))))))))))
theorem ok_is_end (c : Facts g base) (h_is_int : Fn g P w base 1 "is_int" 3 M_is_int) : Fn g P w base 2 "is_end" 1 M_is_end := by
  obtain ⟨fd, F⟩ := c.F_is_end
  have S : FnScope (["value"] : List Str) ["value"] d_is_end.scope := ⟨rfl, rfl, rfl, by decide +kernel, rfl, by decide +kernel, by decide +kernel⟩
  refine fn_mk F c.G_is_end S (F.bindsN fun _ _ _ _ _ _ us hl => match us, hl with | [_], _ => rfl) rfl rfl (fun cdv A outer s H E hcd hr => ?_)
  exact fss_cons (fs_if (ft_cmp op_isN sr_isN (fv 0) (fe_non)) (fss_one (fs_ret (fe_bl))) (fss_nil)) (fss_cons (fs_if (ft_w (fw_or (ft_not (ft_val (fe_isi c.n_isinstance c.n_tuple (fv 0)))) (fw_or (ft_cmp (op_eqX hr.units) sr_eq (fe_blt call_len sc_len c.n_len (fa_cons (fv 0) (fa_nil))) (fe_int)) (fw_or1 (ft_not (ft_val (fe_isi c.n_isinstance c.n_str (fe_ix ix_seq sr_ix (fv 0) (fe_int))))))))) (fss_one (fs_ret (fe_bl))) (fss_nil)) (fss_cons (fs_if (ft_cmp (op_eqX hr.units) sr_eq (fe_ix ix_seq sr_ix (fv 0) (fe_int)) (fe_str)) (fss_one (fs_ret (fe_cmp (op_eqX hr.units) sr_eq (fe_blt call_len sc_len c.n_len (fa_cons (fv 0) (fa_nil))) (fe_int)))) (fss_nil)) (fss_one (fs_ret (fe_and (fe_cmp (op_eqX hr.units) sr_eq (fe_ix ix_seq sr_ix (fv 0) (fe_int)) (fe_str)) (fe_and (fe_cmp (op_eqX hr.units) sr_eq (fe_blt call_len sc_len c.n_len (fa_cons (fv 0) (fa_nil))) (fe_int)) (fe_one (fe_call (h_is_int.mono (by decide)) hr tkD (fa_cons (fe_ix ix_seq sr_ix (fv 0) (fe_int)) (fa_cons (fe_int) (fa_cons (fe_int) (fa_nil))))))))))))
theorem ok_shared_by (c : Facts g base)  : Fn g P w base 1 "shared_by" 1 M_shared_by := by
  obtain ⟨fd, F⟩ := c.F_shared_by
  have S : FnScope (["steps", "found", "step"] : List Str) ["steps"] d_shared_by.scope := ⟨rfl, rfl, rfl, by decide +kernel, rfl, by decide +kernel, by decide +kernel⟩
  refine fn_mk F c.G_shared_by S (F.bindsN fun _ _ _ _ _ _ us hl => match us, hl with | [_], _ => rfl) rfl rfl (fun cdv A outer s H E hcd hr => ?_)
  exact fss_cons (fs_set 1 S.nd (fe_int)) (fss_cons (fs_for poD rfl (fi_seq (fv 0)) (fg_name 2 S.nd) (fss_one (fs_if (ft_cmp (op_eqX hr.units) sr_eq (fe_ix ix_seq sr_ix (fv 2) (fe_int)) (fe_str)) (fss_one (fs_set 1 S.nd (fe_bin op_mulX sr_mul (fv 1) (fe_ix ix_seq sr_ix (fv 2) (fe_int))))) (fss_nil)))) (fss_one (fs_ret (fv 1))))
theorem ok_is_trick (c : Facts g base) (h_is_step : Fn g P w base 2 "is_step" 1 M_is_step) (h_is_end : Fn g P w base 2 "is_end" 1 M_is_end) (h_shared_by : Fn g P w base 1 "shared_by" 1 M_shared_by) : Fn g P w base 3 "is_trick" 1 M_is_trick := by
  obtain ⟨fd, F⟩ := c.F_is_trick
  have S : FnScope (["value", "step"] : List Str) ["value"] d_is_trick.scope := ⟨rfl, rfl, rfl, by decide +kernel, rfl, by decide +kernel, by decide +kernel⟩
  refine fn_mk F c.G_is_trick S (F.bindsN fun _ _ _ _ _ _ us hl => match us, hl with | [_], _ => rfl) rfl rfl (fun cdv A outer s H E hcd hr => ?_)
  exact fss_cons (fs_if (ft_w (fw_or (ft_not (ft_val (fe_isi c.n_isinstance c.n_tuple (fv 0)))) (fw_or (ft_cmp (op_neX hr.units) sr_ne (fe_blt call_len sc_len c.n_len (fa_cons (fv 0) (fa_nil))) (fe_int)) (fw_or (ft_not (ft_val (fe_isi c.n_isinstance c.n_tuple (fe_ix ix_seq sr_ix (fv 0) (fe_int))))) (fw_or1 (ft_not (ft_val (fe_call (h_is_end.mono (by decide)) hr tkD (fa_cons (fe_ix ix_seq sr_ix (fv 0) (fe_int)) (fa_nil)))))))))) (fss_one (fs_ret (fe_bl))) (fss_nil)) (fss_cons (fs_if (ft_w (fw_or (ft_cmp op_gt sr_cmp (fe_blt call_len sc_len c.n_len (fa_cons (fe_ix ix_seq sr_ix (fv 0) (fe_int)) (fa_nil))) ((c.e_MOST_STEPS rfl))) (fw_or1 (ft_not (ft_val (fe_blt (cr_all rfl) sc_all c.n_all (fa_cons (fe_lc (own := [("step", 1)]) rfl S.nd (fi_seq (fe_ix ix_seq sr_ix (fv 0) (fe_int))) (blkOk_by (by rfl)) (fun _ _ _ _ _ => fg_name 1 S.nd) (fun _ _ _ _ _ => fts_nil) (fun _ _ _ _ _ => fe_call (h_is_step.mono (by decide)) hr takesZ0 (fa_cons (fv 1) (fa_nil)))) (fa_nil)))))))) (fss_one (fs_ret (fe_bl))) (fss_nil)) (fss_one (fs_ret (fe_cmp op_le sr_cmp (fe_call (h_shared_by.mono (by decide)) hr tkD (fa_cons (fe_ix ix_seq sr_ix (fv 0) (fe_int)) (fa_nil))) ((c.e_MOST_SHARED rfl))))))
theorem ok_line_of (c : Facts g base)  : Fn g P w base 1 "line_of" 1 M_line_of := by
  obtain ⟨fd, F⟩ := c.F_line_of
  have S : FnScope (["items", "item"] : List Str) ["items"] d_line_of.scope := ⟨rfl, rfl, rfl, by decide +kernel, rfl, by decide +kernel, by decide +kernel⟩
  refine fn_mk F c.G_line_of S (F.bindsN fun _ _ _ _ _ _ us hl => match us, hl with | [_], _ => rfl) rfl rfl (fun cdv A outer s H E hcd hr => ?_)
  exact fss_one (fs_ret (fe_join (fe_str) (fe_lc (own := [("item", 1)]) rfl S.nd (fi_seq (fv 0)) (blkOk_by (by rfl)) (fun _ _ _ _ _ => fg_name 1 S.nd) (fun _ _ _ _ _ => fts_nil) (fun _ _ _ _ _ => fe_ty cr_str sc_str c.n_str (fa_cons (fv 1) (fa_nil))))))
theorem ok_text_of (c : Facts g base) (h_line_of : Fn g P w base 1 "line_of" 1 M_line_of) : Fn g P w base 2 "text_of" 1 M_text_of := by
  obtain ⟨fd, F⟩ := c.F_text_of
  have S : FnScope (["trick", "lines", "step"] : List Str) ["trick"] d_text_of.scope := ⟨rfl, rfl, rfl, by decide +kernel, rfl, by decide +kernel, by decide +kernel⟩
  refine fn_mk F c.G_text_of S (F.bindsN fun _ _ _ _ _ _ us hl => match us, hl with | [_], _ => rfl) rfl rfl (fun cdv A outer s H E hcd hr => ?_)
  exact fss_cons (fs_set 1 S.nd (fe_bin op_addX sr_add (fe_lst (fa_cons (fe_str) (fa_nil))) (fe_lc (own := [("step", 2)]) rfl S.nd (fi_seq (fe_ix ix_seq sr_ix (fv 0) (fe_int))) (blkOk_by (by rfl)) (fun _ _ _ _ _ => fg_name 2 S.nd) (fun _ _ _ _ _ => fts_nil) (fun _ _ _ _ _ => fe_call (h_line_of.mono (by decide)) hr takesZ0 (fa_cons (fv 2) (fa_nil)))))) (fss_one (fs_ret (fe_join (fe_str) (fe_if (ft_cmp op_isN sr_isN (fe_ix ix_seq sr_ix (fv 0) (fe_int)) (fe_non)) (fv 1) (fe_bin op_addX sr_add (fv 1) (fe_lst (fa_cons (fe_call (h_line_of.mono (by decide)) hr tkD (fa_cons (fe_ix ix_seq sr_ix (fv 0) (fe_int)) (fa_nil))) (fa_nil))))))))
theorem ok_item_in (c : Facts g base)  : Fn g P w base 1 "item_in" 1 M_item_in := by
  obtain ⟨fd, F⟩ := c.F_item_in
  have S : FnScope (["word", "plain", "sign"] : List Str) ["word"] d_item_in.scope := ⟨rfl, rfl, rfl, by decide +kernel, rfl, by decide +kernel, by decide +kernel⟩
  refine fn_mk F c.G_item_in S (F.bindsN fun _ _ _ _ _ _ us hl => match us, hl with | [_], _ => rfl) rfl rfl (fun cdv A outer s H E hcd hr => ?_)
  exact fss_cons (fs_set 1 S.nd (fe_if (ft_cmp (op_eqX hr.units) sr_eq (fe_sl (fv 0) (fo_none) (fo_some (fe_int))) (fe_str)) (fe_sl (fv 0) (fo_some (fe_int)) (fo_none)) (fv 0))) (fss_cons (fs_if (ft_w (fw_and (ft_chain op_le sr_cmp op_le sr_cmp (fe_int) (fe_blt call_len sc_len c.n_len (fa_cons (fv 1) (fa_nil))) (fe_int)) (fw_and1 (ft_val (fe_blt (cr_all rfl) sc_all c.n_all (fa_cons (fe_lc (own := [("sign", 2)]) rfl S.nd (fi_seq (fv 1)) (blkOk_by (by rfl)) (fun _ _ _ _ _ => fg_name 2 S.nd) (fun _ _ _ _ _ => fts_nil) (fun _ _ _ _ _ => fe_cmp op_in_sign sr_inS (fv 2) ((c.e_FIGURES rfl)))) (fa_nil))))))) (fss_one (fs_ret (fe_if (ft_cmp (op_eqX hr.units) sr_eq (fv 1) (fv 0)) (fe_ty cr_int sc_int c.n_int (fa_cons (fv 1) (fa_nil))) (fe_bin op_sub sr_sub (fe_int) (fe_ty cr_int sc_int c.n_int (fa_cons (fv 1) (fa_nil))))))) (fss_nil)) (fss_one (fs_ret (fv 0))))
theorem ok_items_in (c : Facts g base) (h_item_in : Fn g P w base 1 "item_in" 1 M_item_in) : Fn g P w base 2 "items_in" 1 M_items_in := by
  obtain ⟨fd, F⟩ := c.F_items_in
  have S : FnScope (["line", "word"] : List Str) ["line"] d_items_in.scope := ⟨rfl, rfl, rfl, by decide +kernel, rfl, by decide +kernel, by decide +kernel⟩
  refine fn_mk F c.G_items_in S (F.bindsN fun _ _ _ _ _ _ us hl => match us, hl with | [_], _ => rfl) rfl rfl (fun cdv A outer s H E hcd hr => ?_)
  exact fss_one (fs_ret (fe_ty call_tuple_of sc_tuple c.n_tuple (fa_cons (fe_lc (own := [("word", 1)]) rfl S.nd (fi_seq (fe_split (fv 0) (fe_str))) (blkOk_by (by rfl)) (fun _ _ _ _ _ => fg_name 1 S.nd) (fun _ _ _ _ _ => fts_nil) (fun _ _ _ _ _ => fe_call (h_item_in.mono (by decide)) hr takesZ0 (fa_cons (fv 1) (fa_nil)))) (fa_nil))))
theorem ok_trick_in (c : Facts g base) (h_items_in : Fn g P w base 2 "items_in" 1 M_items_in) : Fn g P w base 3 "trick_in" 1 M_trick_in := by
  obtain ⟨fd, F⟩ := c.F_trick_in
  have S : FnScope (["lines", "rows", "line"] : List Str) ["lines"] d_trick_in.scope := ⟨rfl, rfl, rfl, by decide +kernel, rfl, by decide +kernel, by decide +kernel⟩
  refine fn_mk F c.G_trick_in S (F.bindsN fun _ _ _ _ _ _ us hl => match us, hl with | [_], _ => rfl) rfl rfl (fun cdv A outer s H E hcd hr => ?_)
  exact fss_cons (fs_setLc 1 (own := [("line", 2)]) rfl S.nd (fi_seq (fe_sl (fv 0) (fo_some (fe_int)) (fo_none))) (blkOk_by (by rfl)) (fun _ _ _ _ _ => fg_name 2 S.nd) (fun _ _ _ _ _ => fts_nil) (fun _ _ _ _ _ => fe_call (h_items_in.mono (by decide)) hr takesZ0 (fa_cons (fv 2) (fa_nil))) (by rfl)) (fss_cons (fs_if (ft_w (fw_and (ft_cmp (op_neX hr.units) sr_ne (fv 1) (fe_lst (fa_nil))) (fw_and1 (ft_cmp op_in_seq sr_in (fe_ix ix_seq sr_ix (fe_ix ix_seq sr_ix (fv 1) (fe_un un_neg su_neg (fe_int))) (fe_int)) (fe_tup (fa_cons (fe_str) (fa_cons (fe_str) (fa_nil)))))))) (fss_one (fs_ret (fe_tup (fa_cons (fe_ty call_tuple_of sc_tuple c.n_tuple (fa_cons (fe_sl (fv 1) (fo_none) (fo_some (fe_un un_neg su_neg (fe_int)))) (fa_nil))) (fa_cons (fe_ix ix_seq sr_ix (fv 1) (fe_un un_neg su_neg (fe_int))) (fa_nil)))))) (fss_nil)) (fss_one (fs_ret (fe_tup (fa_cons (fe_ty call_tuple_of sc_tuple c.n_tuple (fa_cons (fv 1) (fa_nil))) (fa_cons (fe_non) (fa_nil)))))))
theorem ok_read_trick (c : Facts g base) (h_is_trick : Fn g P w base 3 "is_trick" 1 M_is_trick) (h_text_of : Fn g P w base 2 "text_of" 1 M_text_of) (h_trick_in : Fn g P w base 3 "trick_in" 1 M_trick_in) (hE : ∀ n ∈ errs, LawE g n (He.ga g.K n)) : Fn g P w base 4 "read_trick" 1 M_read_trick := by
  obtain ⟨fd, F⟩ := c.F_read_trick
  have S : FnScope (["value", "found"] : List Str) ["value"] d_read_trick.scope := ⟨rfl, rfl, rfl, by decide +kernel, rfl, by decide +kernel, by decide +kernel⟩
  refine fn_mk F c.G_read_trick S (F.bindsN fun _ _ _ _ _ _ us hl => match us, hl with | [_], _ => rfl) rfl rfl (fun cdv A outer s H E hcd hr => ?_)
  exact fss_cons (fs_if (ft_not (ft_val (fe_isi c.n_isinstance c.n_str (fv 0)))) (fss_one (fs_raise (hE "NoText" (by decide +kernel)).toExK tkD)) (fss_nil)) (fss_cons (fs_set 1 S.nd (fe_call (h_trick_in.mono (by decide)) hr tkD (fa_cons (fe_split (fv 0) (fe_str)) (fa_nil)))) (fss_cons (fs_if (ft_w (fw_or (ft_not (ft_val (fe_call (h_is_trick.mono (by decide)) hr tkD (fa_cons (fv 1) (fa_nil))))) (fw_or1 (ft_cmp (op_neX hr.units) sr_ne (fe_call (h_text_of.mono (by decide)) hr tkD (fa_cons (fv 1) (fa_nil))) (fv 0))))) (fss_one (fs_raise (hE "NoText" (by decide +kernel)).toExK tkD)) (fss_nil)) (fss_one (fs_ret (fv 1)))))
theorem ok__law_sack (c : Facts g base)  : Fn g P w base 1 "_law_sack" 2 M__law_sack := by
  obtain ⟨fd, F⟩ := c.F__law_sack
  have S : FnScope (["script", "k", "cell"] : List Str) ["script", "k"] d__law_sack.scope := ⟨rfl, rfl, rfl, by decide +kernel, rfl, by decide +kernel, by decide +kernel⟩
  refine fn_mk F c.G__law_sack S (F.bindsN fun _ _ _ _ _ _ us hl => match us, hl with | [_, _], _ => rfl) rfl rfl (fun cdv A outer s H E hcd hr => ?_)
  exact fss_cons (fs_set 2 S.nd (fe_bin op_addX sr_add (fe_bin op_mulX sr_mul (fe_int) (fv 1)) (fe_int))) (fss_cons (fs_if (ft_cmp op_lt sr_cmp (fv 1) (fe_blt call_len sc_len c.n_len (fa_cons (fv 0) (fa_nil)))) (fss_one (fs_set 2 S.nd (fe_bin op_mod sr_mod (fe_blt call_abs sc_abs c.n_abs (fa_cons (fe_ty cr_int sc_int c.n_int (fa_cons (fe_ix ix_seq sr_ix (fv 0) (fv 1)) (fa_nil))) (fa_nil))) (fe_bin op_mulX sr_mul (fe_bin op_mulX sr_mul (fe_bin op_mulX sr_mul (fe_bin op_pow sr_pow (fe_int) (fe_int)) (fe_bin op_pow sr_pow (fe_int) (fe_int))) (fe_bin op_pow sr_pow (fe_int) (fe_int))) (fe_bin op_pow sr_pow (fe_int) (fe_int)))))) (fss_one (fs_if (ft_cmp op_gt sr_cmp (fe_blt call_len sc_len c.n_len (fa_cons (fv 0) (fa_nil))) (fe_int)) (fss_one (fs_set 2 S.nd (fe_bin op_addX sr_add (fv 2) (fe_bin op_mod sr_mod (fe_blt call_abs sc_abs c.n_abs (fa_cons (fe_ty cr_int sc_int c.n_int (fa_cons (fe_ix ix_seq sr_ix (fv 0) (fe_int)) (fa_nil))) (fa_nil))) (fe_int))))) (fss_nil)))) (fss_one (fs_ret (fe_lst (fa_cons (fe_if (ft_cmp op_ge sr_cmp (fv 2) (fe_bin op_pow sr_pow (fe_int) (fe_int))) (fv 2) (fe_int)) (fa_cons (fe_bin op_addX sr_add (fe_bin op_mod sr_mod (fe_ty cr_int sc_int c.n_int (fa_cons (fe_bin op_addX sr_add (fe_bin op_addX sr_add (fe_bin op_mulX sr_mul (fe_bin op_mod sr_mod (fv 2) (fe_int)) (fe_int)) (fe_bin op_mulX sr_mul (fe_int) (fv 1))) (fe_int)) (fa_nil))) (fe_int)) (fe_int)) (fa_nil)))))))
theorem ok__law_grab (c : Facts g base)  : Fn g P w base 1 "_law_grab" 2 M__law_grab := by
  obtain ⟨fd, F⟩ := c.F__law_grab
  have S : FnScope (["sack", "many", "found", "wide"] : List Str) ["sack", "many"] d__law_grab.scope := ⟨rfl, rfl, rfl, by decide +kernel, rfl, by decide +kernel, by decide +kernel⟩
  refine fn_mk F c.G__law_grab S (F.bindsN fun _ _ _ _ _ _ us hl => match us, hl with | [_, _], _ => rfl) rfl rfl (fun cdv A outer s H E hcd hr => ?_)
  exact fss_cons (fs_if (ft_cmp op_gt sr_cmp (fe_ix ix_seq sr_ix (fv 0) (fe_int)) (fe_int)) (fss_cons (fs_set 2 S.nd (fe_bin op_mod sr_mod (fe_ty cr_int sc_int c.n_int (fa_cons (fe_ix ix_seq sr_ix (fv 0) (fe_int)) (fa_nil))) (fv 1))) (fss_cons (fs_setIx 0 (fe_int) (fe_bin op_fdivW sr_fdiv (fe_ix ix_seq sr_ix (fv 0) (fe_int)) (fv 1))) (fss_one (fs_ret (fv 2))))) (fss_nil)) (fss_cons (fs_tupA rfl (fe_tup (fa_cons (fe_int) (fa_cons (fe_int) (fa_nil)))) (fgs_cons (fg_name 2 S.nd) (fgs_cons (fg_name 3 S.nd) (fgs_nil)))) (fss_cons (fs_while fuel poD (ft_w (fw_or (ft_cmp op_lt sr_cmp (fv 3) (fv 1)) (fw_or1 (ft_cmp (op_eqX hr.units) sr_eq (fv 3) (fe_int))))) (fss_cons (fs_setIx 0 (fe_int) (fe_bin op_mod sr_mod (fe_ty cr_int sc_int c.n_int (fa_cons (fe_bin op_addX sr_add (fe_bin op_mulX sr_mul (fe_ix ix_seq sr_ix (fv 0) (fe_int)) (fe_int)) (fe_int)) (fa_nil))) (fe_int))) (fss_cons (fs_set 2 S.nd (fe_bin op_addX sr_add (fe_bin op_mulX sr_mul (fv 2) (fe_int)) (fe_bin op_mod sr_mod (fe_ty cr_int sc_int c.n_int (fa_cons (fe_bin op_fdivW sr_fdiv (fe_ix ix_seq sr_ix (fv 0) (fe_int)) (fe_int)) (fa_nil))) (fe_int)))) (fss_one (fs_set 3 S.nd (fe_bin op_mulX sr_mul (fv 3) (fe_int))))))) (fss_one (fs_ret (fe_bin op_mod sr_mod (fe_ty cr_int sc_int c.n_int (fa_cons (fv 2) (fa_nil))) (fv 1))))))
theorem ok__law_any (c : Facts g base) (h__law_grab : Fn g P w base 1 "_law_grab" 2 M__law_grab) : Fn g P w base 2 "_law_any" 2 M__law_any := by
  obtain ⟨fd, F⟩ := c.F__law_any
  have S : FnScope (["sack", "things_so"] : List Str) ["sack", "things_so"] d__law_any.scope := ⟨rfl, rfl, rfl, by decide +kernel, rfl, by decide +kernel, by decide +kernel⟩
  refine fn_mk F c.G__law_any S (F.bindsN fun _ _ _ _ _ _ us hl => match us, hl with | [_, _], _ => rfl) rfl rfl (fun cdv A outer s H E hcd hr => ?_)
  exact fss_one (fs_ret (fe_ix ix_seq sr_ix (fv 1) (fe_call (h__law_grab.mono (by decide)) hr tkD (fa_cons (fv 0) (fa_cons (fe_blt call_len sc_len c.n_len (fa_cons (fv 1) (fa_nil))) (fa_nil))))))
theorem ok__law_words (c : Facts g base)  : Fn g P w base 1 "_law_words" 0 M__law_words := by
  obtain ⟨fd, F⟩ := c.F__law_words
  have S : FnScope ([] : List Str) [] d__law_words.scope := ⟨rfl, rfl, rfl, by decide +kernel, rfl, by decide +kernel, by decide +kernel⟩
  refine fn_mk F c.G__law_words S (F.bindsN fun _ _ _ _ _ _ us hl => match us, hl with | [], _ => rfl) rfl rfl (fun cdv A outer s H E hcd hr => ?_)
  exact fss_one (fs_ret (fe_lst (fa_cons (fe_str) (fa_cons (fe_str) (fa_cons (fe_str) (fa_cons (fe_str) (fa_cons (fe_str) (fa_cons (fe_str) (fa_nil)))))))))
theorem ok__law_step (c : Facts g base) (h__law_grab : Fn g P w base 1 "_law_grab" 2 M__law_grab) (h__law_any : Fn g P w base 2 "_law_any" 2 M__law_any) (h__law_words : Fn g P w base 1 "_law_words" 0 M__law_words) : Fn g P w base 3 "_law_step" 1 M__law_step := by
  obtain ⟨fd, F⟩ := c.F__law_step
  have S : FnScope (["sack", "way", "times", "word"] : List Str) ["sack"] d__law_step.scope := ⟨rfl, rfl, rfl, by decide +kernel, rfl, by decide +kernel, by decide +kernel⟩
  refine fn_mk F c.G__law_step S (F.bindsN fun _ _ _ _ _ _ us hl => match us, hl with | [_], _ => rfl) rfl rfl (fun cdv A outer s H E hcd hr => ?_)
  exact fss_cons (fs_set 1 S.nd (fe_call (h__law_grab.mono (by decide)) hr tkD (fa_cons (fv 0) (fa_cons (fe_int) (fa_nil))))) (fss_cons (fs_if (ft_cmp op_lt sr_cmp (fv 1) (fe_int)) (fss_cons (fs_set 2 S.nd (fe_call (h__law_any.mono (by decide)) hr tkD (fa_cons (fv 0) (fa_cons (fe_lst (fa_cons (fe_int) (fa_cons (fe_un un_neg su_neg (fe_int)) (fa_cons (fe_int) (fa_cons (fe_un un_neg su_neg (fe_int)) (fa_cons (fe_int) (fa_cons (fe_int) (fa_cons (fe_un un_neg su_neg (fe_int)) (fa_cons (fe_bin op_addX sr_add (fe_int) (fe_call (h__law_grab.mono (by decide)) hr tkD (fa_cons (fv 0) (fa_cons (fe_int) (fa_nil))))) (fa_nil)))))))))) (fa_nil))))) (fss_cons (fs_set 3 S.nd (fe_call (h__law_any.mono (by decide)) hr tkD (fa_cons (fv 0) (fa_cons (fe_bin op_addX sr_add (fe_call0 (h__law_words.mono (by decide)) hr tkD) (fe_lst (fa_cons (fe_str) (fa_cons (fe_str) (fa_cons (fe_str) (fa_cons (fe_str) (fa_nil))))))) (fa_nil))))) (fss_one (fs_ret (fe_tup (fa_cons (fe_str) (fa_cons (fv 2) (fa_cons (fv 3) (fa_nil))))))))) (fss_nil)) (fss_cons (fs_if (ft_cmp (op_eqX hr.units) sr_eq (fv 1) (fe_int)) (fss_one (fs_ret (fe_tup (fa_cons (fe_str) (fa_cons (fe_bin op_addX sr_add (fe_int) (fe_call (h__law_grab.mono (by decide)) hr tkD (fa_cons (fv 0) (fa_cons (fe_int) (fa_nil))))) (fa_nil)))))) (fss_nil)) (fss_one (fs_ret (fe_tup (fa_cons (fe_str) (fa_cons (fe_call (h__law_any.mono (by decide)) hr tkD (fa_cons (fv 0) (fa_cons (fe_lst (fa_cons (fe_int) (fa_cons (fe_int) (fa_cons (fe_int) (fa_cons (fe_int) (fa_cons (fe_bin op_addX sr_add (fe_int) (fe_call (h__law_grab.mono (by decide)) hr tkD (fa_cons (fv 0) (fa_cons (fe_int) (fa_nil))))) (fa_nil))))))) (fa_nil)))) (fa_nil))))))))
theorem ok__law_product (c : Facts g base)  : Fn g P w base 1 "_law_product" 1 M__law_product := by
  obtain ⟨fd, F⟩ := c.F__law_product
  have S : FnScope (["steps", "found", "step"] : List Str) ["steps"] d__law_product.scope := ⟨rfl, rfl, rfl, by decide +kernel, rfl, by decide +kernel, by decide +kernel⟩
  refine fn_mk F c.G__law_product S (F.bindsN fun _ _ _ _ _ _ us hl => match us, hl with | [_], _ => rfl) rfl rfl (fun cdv A outer s H E hcd hr => ?_)
  exact fss_cons (fs_set 1 S.nd (fe_int)) (fss_cons (fs_for poD rfl (fi_seq (fv 0)) (fg_name 2 S.nd) (fss_one (fs_set 1 S.nd (fe_bin op_mulX sr_mul (fv 1) (fe_if (ft_cmp (op_eqX hr.units) sr_eq (fe_ix ix_seq sr_ix (fv 2) (fe_int)) (fe_str)) (fe_ix ix_seq sr_ix (fv 2) (fe_int)) (fe_int)))))) (fss_one (fs_ret (fv 1))))
theorem ok__law_tail (c : Facts g base) (h__law_grab : Fn g P w base 1 "_law_grab" 2 M__law_grab) : Fn g P w base 2 "_law_tail" 2 M__law_tail := by
  obtain ⟨fd, F⟩ := c.F__law_tail
  have S : FnScope (["sack", "by"] : List Str) ["sack", "by"] d__law_tail.scope := ⟨rfl, rfl, rfl, by decide +kernel, rfl, by decide +kernel, by decide +kernel⟩
  refine fn_mk F c.G__law_tail S (F.bindsN fun _ _ _ _ _ _ us hl => match us, hl with | [_, _], _ => rfl) rfl rfl (fun cdv A outer s H E hcd hr => ?_)
  exact fss_one (fs_ret (fe_if (ft_w (fw_and (ft_chain op_le sr_cmp op_le sr_cmp (fe_int) (fv 1) (fe_int)) (fw_and1 (ft_cmp (op_eqX hr.units) sr_eq (fe_call (h__law_grab.mono (by decide)) hr tkD (fa_cons (fv 0) (fa_cons (fe_int) (fa_nil)))) (fe_int))))) (fe_tup (fa_cons (fe_tup (fa_cons (fe_str) (fa_cons (fv 1) (fa_nil)))) (fa_nil))) (fe_tup (fa_nil))))
theorem ok__law_trick (c : Facts g base) (h__law_grab : Fn g P w base 1 "_law_grab" 2 M__law_grab) (h__law_any : Fn g P w base 2 "_law_any" 2 M__law_any) (h__law_words : Fn g P w base 1 "_law_words" 0 M__law_words) (h__law_step : Fn g P w base 3 "_law_step" 1 M__law_step) (h__law_product : Fn g P w base 1 "_law_product" 1 M__law_product) (h__law_tail : Fn g P w base 2 "_law_tail" 2 M__law_tail) : Fn g P w base 4 "_law_trick" 3 M__law_trick := by
  obtain ⟨fd, F⟩ := c.F__law_trick
  have S : FnScope (["sack", "base", "most", "steps", "way", "by", "turn", "step", "end"] : List Str) ["sack", "base", "most"] d__law_trick.scope := ⟨rfl, rfl, rfl, by decide +kernel, rfl, by decide +kernel, by decide +kernel⟩
  refine fn_mk F c.G__law_trick S (F.bindsN fun _ _ _ _ _ _ us hl => match us, hl with | [_, _, _], _ => rfl) rfl rfl (fun cdv A outer s H E hcd hr => ?_)
  exact fss_cons (fs_set 3 S.nd (fe_tup (fa_nil))) (fss_cons (fs_set 4 S.nd (fe_call (h__law_grab.mono (by decide)) hr tkD (fa_cons (fv 0) (fa_cons (fe_int) (fa_nil))))) (fss_cons (fs_if (ft_cmp (op_eqX hr.units) sr_eq (fv 4) (fe_int)) (fss_one (fs_set 3 S.nd (fe_bin op_addX sr_add (fe_tup (fa_cons (fe_tup (fa_cons (fe_str) (fa_cons (fe_un un_neg su_neg (fe_int)) (fa_cons (fe_str) (fa_nil))))) (fa_nil))) (fe_call (h__law_tail.mono (by decide)) hr tkD (fa_cons (fv 0) (fa_cons (fe_bin op_sub sr_sub (fv 1) (fe_int)) (fa_nil))))))) (fss_one (fs_if (ft_cmp (op_eqX hr.units) sr_eq (fv 4) (fe_int)) (fss_one (fs_set 3 S.nd (fe_bin op_addX sr_add (fe_tup (fa_cons (fe_tup (fa_cons (fe_str) (fa_cons (fe_un un_neg su_neg (fe_int)) (fa_cons (fe_str) (fa_nil))))) (fa_nil))) (fe_call (h__law_tail.mono (by decide)) hr tkD (fa_cons (fv 0) (fa_cons (fe_bin op_sub sr_sub (fv 1) (fe_int)) (fa_nil))))))) (fss_one (fs_if (ft_cmp (op_eqX hr.units) sr_eq (fv 4) (fe_int)) (fss_one (fs_set 3 S.nd (fe_bin op_addX sr_add (fe_tup (fa_cons (fe_tup (fa_cons (fe_str) (fa_cons (fe_int) (fa_cons (fe_str) (fa_nil))))) (fa_nil))) (fe_call (h__law_tail.mono (by decide)) hr tkD (fa_cons (fv 0) (fa_cons (fe_bin op_addX sr_add (fv 1) (fe_int)) (fa_nil))))))) (fss_one (fs_if (ft_cmp (op_eqX hr.units) sr_eq (fv 4) (fe_int)) (fss_cons (fs_set 5 S.nd (fe_bin op_addX sr_add (fe_int) (fe_call (h__law_grab.mono (by decide)) hr tkD (fa_cons (fv 0) (fa_cons (fe_int) (fa_nil)))))) (fss_one (fs_set 3 S.nd (fe_tup (fa_cons (fe_tup (fa_cons (fe_str) (fa_cons (fv 5) (fa_nil)))) (fa_cons (fe_tup (fa_cons (fe_str) (fa_cons (fv 5) (fa_cons (fe_call (h__law_any.mono (by decide)) hr tkD (fa_cons (fv 0) (fa_cons (fe_call0 (h__law_words.mono (by decide)) hr tkD) (fa_nil)))) (fa_nil))))) (fa_cons (fe_tup (fa_cons (fe_str) (fa_cons (fv 5) (fa_nil)))) (fa_nil)))))))) (fss_nil)))))))) (fss_cons (fs_for poD rfl (fi_rng1 rfl c.n_range (fe_call (h__law_grab.mono (by decide)) hr tkD (fa_cons (fv 0) (fa_cons (fv 2) (fa_nil))))) (fg_name 6 S.nd) (fss_cons (fs_set 7 S.nd (fe_call (h__law_step.mono (by decide)) hr tkD (fa_cons (fv 0) (fa_nil)))) (fss_one (fs_if (ft_w (fw_and (ft_cmp op_lt sr_cmp (fe_blt call_len sc_len c.n_len (fa_cons (fv 3) (fa_nil))) (fv 2)) (fw_and1 (ft_cmp op_le sr_cmp (fe_call (h__law_product.mono (by decide)) hr tkD (fa_cons (fe_bin op_addX sr_add (fv 3) (fe_tup (fa_cons (fv 7) (fa_nil)))) (fa_nil))) (fe_int))))) (fss_one (fs_set 3 S.nd (fe_bin op_addX sr_add (fv 3) (fe_tup (fa_cons (fv 7) (fa_nil)))))) (fss_nil))))) (fss_cons (fs_set 8 S.nd (fe_call (h__law_any.mono (by decide)) hr tkD (fa_cons (fv 0) (fa_cons (fe_lst (fa_cons (fe_non) (fa_cons (fe_non) (fa_cons (fe_tup (fa_cons (fe_str) (fa_nil))) (fa_cons (fe_tup (fa_cons (fe_str) (fa_cons (fe_bin op_addX sr_add (fe_int) (fe_call (h__law_grab.mono (by decide)) hr tkD (fa_cons (fv 0) (fa_cons (fe_int) (fa_nil))))) (fa_nil)))) (fa_cons (fe_tup (fa_cons (fe_str) (fa_cons (fe_int) (fa_nil)))) (fa_nil))))))) (fa_nil))))) (fss_one (fs_ret (fe_tup (fa_cons (fe_sl (fv 3) (fo_none) (fo_some (fv 2))) (fa_cons (fv 8) (fa_nil))))))))))
theorem ok__law_is_whole (c : Facts g base)  : Fn g P w base 1 "_law_is_whole" 3 M__law_is_whole := by
  obtain ⟨fd, F⟩ := c.F__law_is_whole
  have S : FnScope (["thing", "low", "high"] : List Str) ["thing", "low", "high"] d__law_is_whole.scope := ⟨rfl, rfl, rfl, by decide +kernel, rfl, by decide +kernel, by decide +kernel⟩
  refine fn_mk F c.G__law_is_whole S (F.bindsN fun _ _ _ _ _ _ us hl => match us, hl with | [_, _, _], _ => rfl) rfl rfl (fun cdv A outer s H E hcd hr => ?_)
  exact fss_one (fs_ret (fe_and (fe_isi c.n_isinstance c.n_int (fv 0)) (fe_and (fe_not (fe_isi c.n_isinstance c.n_bool (fv 0))) (fe_one (fe_chain op_le sr_cmp op_le sr_cmp (fv 1) (fv 0) (fv 2))))))
theorem ok__law_is_step (c : Facts g base) (h__law_words : Fn g P w base 1 "_law_words" 0 M__law_words) (h__law_is_whole : Fn g P w base 1 "_law_is_whole" 3 M__law_is_whole) : Fn g P w base 2 "_law_is_step" 1 M__law_is_step := by
  obtain ⟨fd, F⟩ := c.F__law_is_step
  have S : FnScope (["thing"] : List Str) ["thing"] d__law_is_step.scope := ⟨rfl, rfl, rfl, by decide +kernel, rfl, by decide +kernel, by decide +kernel⟩
  refine fn_mk F c.G__law_is_step S (F.bindsN fun _ _ _ _ _ _ us hl => match us, hl with | [_], _ => rfl) rfl rfl (fun cdv A outer s H E hcd hr => ?_)
  exact fss_cons (fs_if (ft_w (fw_or (ft_not (ft_val (fe_isi c.n_isinstance c.n_tuple (fv 0)))) (fw_or (ft_cmp op_notIn_seq sr_in (fe_blt call_len sc_len c.n_len (fa_cons (fv 0) (fa_nil))) (fe_tup (fa_cons (fe_int) (fa_cons (fe_int) (fa_nil))))) (fw_or1 (ft_not (ft_val (fe_isi c.n_isinstance c.n_str (fe_ix ix_seq sr_ix (fv 0) (fe_int))))))))) (fss_one (fs_ret (fe_bl))) (fss_nil)) (fss_cons (fs_if (ft_cmp (op_eqX hr.units) sr_eq (fe_blt call_len sc_len c.n_len (fa_cons (fv 0) (fa_nil))) (fe_int)) (fss_one (fs_ret (fe_and (fe_cmp op_in_seq sr_in (fe_ix ix_seq sr_ix (fv 0) (fe_int)) (fe_tup (fa_cons (fe_str) (fa_cons (fe_str) (fa_nil))))) (fe_one (fe_call (h__law_is_whole.mono (by decide)) hr tkD (fa_cons (fe_ix ix_seq sr_ix (fv 0) (fe_int)) (fa_cons (fe_int) (fa_cons (fe_int) (fa_nil))))))))) (fss_nil)) (fss_cons (fs_if (ft_w (fw_or (ft_cmp (op_neX hr.units) sr_ne (fe_ix ix_seq sr_ix (fv 0) (fe_int)) (fe_str)) (fw_or (ft_not (ft_val (fe_call (h__law_is_whole.mono (by decide)) hr tkD (fa_cons (fe_ix ix_seq sr_ix (fv 0) (fe_int)) (fa_cons (fe_un un_neg su_neg (fe_int)) (fa_cons (fe_int) (fa_nil))))))) (fw_or1 (ft_cmp (op_eqX hr.units) sr_eq (fe_ix ix_seq sr_ix (fv 0) (fe_int)) (fe_int)))))) (fss_one (fs_ret (fe_bl))) (fss_nil)) (fss_one (fs_ret (fe_and (fe_isi c.n_isinstance c.n_str (fe_ix ix_seq sr_ix (fv 0) (fe_int))) (fe_one (fe_cmp op_in_seq sr_in (fe_ix ix_seq sr_ix (fv 0) (fe_int)) (fe_call0 (h__law_words.mono (by decide)) hr tkD))))))))
theorem ok__law_is_end (c : Facts g base) (h__law_is_whole : Fn g P w base 1 "_law_is_whole" 3 M__law_is_whole) : Fn g P w base 2 "_law_is_end" 1 M__law_is_end := by
  obtain ⟨fd, F⟩ := c.F__law_is_end
  have S : FnScope (["thing"] : List Str) ["thing"] d__law_is_end.scope := ⟨rfl, rfl, rfl, by decide +kernel, rfl, by decide +kernel, by decide +kernel⟩
  refine fn_mk F c.G__law_is_end S (F.bindsN fun _ _ _ _ _ _ us hl => match us, hl with | [_], _ => rfl) rfl rfl (fun cdv A outer s H E hcd hr => ?_)
  exact fss_cons (fs_if (ft_cmp op_isN sr_isN (fv 0) (fe_non)) (fss_one (fs_ret (fe_bl))) (fss_nil)) (fss_cons (fs_if (ft_w (fw_or (ft_not (ft_val (fe_isi c.n_isinstance c.n_tuple (fv 0)))) (fw_or (ft_cmp op_notIn_seq sr_in (fe_blt call_len sc_len c.n_len (fa_cons (fv 0) (fa_nil))) (fe_tup (fa_cons (fe_int) (fa_cons (fe_int) (fa_nil))))) (fw_or1 (ft_not (ft_val (fe_isi c.n_isinstance c.n_str (fe_ix ix_seq sr_ix (fv 0) (fe_int))))))))) (fss_one (fs_ret (fe_bl))) (fss_nil)) (fss_cons (fs_if (ft_cmp (op_eqX hr.units) sr_eq (fe_blt call_len sc_len c.n_len (fa_cons (fv 0) (fa_nil))) (fe_int)) (fss_one (fs_ret (fe_cmp (op_eqX hr.units) sr_eq (fe_ix ix_seq sr_ix (fv 0) (fe_int)) (fe_str)))) (fss_nil)) (fss_one (fs_ret (fe_and (fe_cmp (op_eqX hr.units) sr_eq (fe_ix ix_seq sr_ix (fv 0) (fe_int)) (fe_str)) (fe_one (fe_call (h__law_is_whole.mono (by decide)) hr tkD (fa_cons (fe_ix ix_seq sr_ix (fv 0) (fe_int)) (fa_cons (fe_int) (fa_cons (fe_int) (fa_nil)))))))))))
theorem ok__law_is_trick (c : Facts g base) (h__law_product : Fn g P w base 1 "_law_product" 1 M__law_product) (h__law_is_step : Fn g P w base 2 "_law_is_step" 1 M__law_is_step) (h__law_is_end : Fn g P w base 2 "_law_is_end" 1 M__law_is_end) : Fn g P w base 3 "_law_is_trick" 1 M__law_is_trick := by
  obtain ⟨fd, F⟩ := c.F__law_is_trick
  have S : FnScope (["thing", "step"] : List Str) ["thing"] d__law_is_trick.scope := ⟨rfl, rfl, rfl, by decide +kernel, rfl, by decide +kernel, by decide +kernel⟩
  refine fn_mk F c.G__law_is_trick S (F.bindsN fun _ _ _ _ _ _ us hl => match us, hl with | [_], _ => rfl) rfl rfl (fun cdv A outer s H E hcd hr => ?_)
  exact fss_cons (fs_if (ft_w (fw_or (ft_not (ft_val (fe_isi c.n_isinstance c.n_tuple (fv 0)))) (fw_or (ft_cmp (op_neX hr.units) sr_ne (fe_blt call_len sc_len c.n_len (fa_cons (fv 0) (fa_nil))) (fe_int)) (fw_or1 (ft_not (ft_val (fe_call (h__law_is_end.mono (by decide)) hr tkD (fa_cons (fe_ix ix_seq sr_ix (fv 0) (fe_int)) (fa_nil))))))))) (fss_one (fs_ret (fe_bl))) (fss_nil)) (fss_cons (fs_if (ft_w (fw_or (ft_not (ft_val (fe_isi c.n_isinstance c.n_tuple (fe_ix ix_seq sr_ix (fv 0) (fe_int))))) (fw_or1 (ft_cmp op_gt sr_cmp (fe_blt call_len sc_len c.n_len (fa_cons (fe_ix ix_seq sr_ix (fv 0) (fe_int)) (fa_nil))) (fe_int))))) (fss_one (fs_ret (fe_bl))) (fss_nil)) (fss_cons (fs_if (ft_cmp (op_neX hr.units) sr_ne (fe_lc (own := [("step", 1)]) rfl S.nd (fi_seq (fe_ix ix_seq sr_ix (fv 0) (fe_int))) (blkOk_by (by rfl)) (fun _ _ _ _ _ => fg_name 1 S.nd) (fun _ _ _ _ _ => fts_one (ft_not (ft_val (fe_call (h__law_is_step.mono (by decide)) hr takesZ0 (fa_cons (fv 1) (fa_nil)))))) (fun _ _ _ _ _ => fv 1)) (fe_lst (fa_nil))) (fss_one (fs_ret (fe_bl))) (fss_nil)) (fss_one (fs_ret (fe_cmp op_le sr_cmp (fe_call (h__law_product.mono (by decide)) hr tkD (fa_cons (fe_ix ix_seq sr_ix (fv 0) (fe_int)) (fa_nil))) (fe_int))))))
theorem okR__law_stuff (c : Facts g base) (h__law_grab : Fn g P w base 1 "_law_grab" 2 M__law_grab) (h__law_any : Fn g P w base 2 "_law_any" 2 M__law_any) (f : Nat) : Fn g P w base (3 + f) "_law_stuff" 2 (R__law_stuff f) := by
  obtain ⟨fd, F⟩ := c.F__law_stuff
  have S : FnScope (["sack", "deep", "some", "row", "turn"] : List Str) ["sack", "deep"] d__law_stuff.scope := ⟨rfl, rfl, rfl, by decide +kernel, rfl, by decide +kernel, by decide +kernel⟩
  induction f with
  | zero =>
    refine fn_mk (k := 2) F c.G__law_stuff S (F.bindsN fun _ _ _ _ _ _ us hl => match us, hl with | [_, _], _ => rfl) rfl rfl (fun cdv A outer s H E hcd hr => ?_)
    exact fss_never
  | succ f ih =>
    refine fn_mk (k := 3 + f) F c.G__law_stuff S (F.bindsN fun _ _ _ _ _ _ us hl => match us, hl with | [_, _], _ => rfl) rfl rfl (fun cdv A outer s H E hcd hr => ?_)
    exact fss_cons (fs_if (ft_w (fw_or (ft_cmp (op_eqX hr.units) sr_eq (fv 1) (fe_int)) (fw_or1 (ft_cmp op_lt sr_cmp (fe_call (h__law_grab.mono (by omega)) hr tkD (fa_cons (fv 0) (fa_cons (fe_int) (fa_nil)))) (fe_int))))) (fss_cons (fs_set 2 S.nd (fe_lst (fa_cons (fe_int) (fa_cons (fe_int) (fa_cons (fe_int) (fa_cons (fe_int) (fa_cons (fe_int) (fa_cons (fe_int) (fa_cons (fe_un un_neg su_neg (fe_int)) (fa_cons (fe_bl) (fa_cons (fe_bl) (fa_cons (fe_non) (fa_cons (fe_str) (fa_cons (fe_str) (fa_cons (fe_str) (fa_cons (fe_str) (fa_cons (fe_bin op_pow sr_pow (fe_int) (fe_int)) (fa_cons (fe_tup (fa_nil)) (fa_cons (fe_lst (fa_nil)) (fa_nil)))))))))))))))))))) (fss_one (fs_ret (fe_call (h__law_any.mono (by omega)) hr tkD (fa_cons (fv 0) (fa_cons (fe_bin op_addX sr_add (fv 2) (fe_lst (fa_cons (fe_tup (fa_cons (fe_str) (fa_nil))) (fa_cons (fe_tup (fa_cons (fe_str) (fa_cons (fe_int) (fa_nil)))) (fa_cons (fe_tup (fa_cons (fe_str) (fa_cons (fe_int) (fa_cons (fe_str) (fa_nil))))) (fa_cons (fe_tup (fa_cons (fe_str) (fa_cons (fe_int) (fa_nil)))) (fa_cons (fe_tup (fa_cons (fe_tup (fa_nil)) (fa_cons (fe_non) (fa_nil)))) (fa_nil)))))))) (fa_nil))))))) (fss_nil)) (fss_cons (fs_setLc 3 (own := [("turn", 4)]) rfl S.nd (fi_rng1 rfl c.n_range (fe_call (h__law_grab.mono (by omega)) hr tkD (fa_cons (fv 0) (fa_cons (fe_int) (fa_nil))))) (blkOk_by (by rfl)) (fun _ _ _ _ _ => fg_name 4 S.nd) (fun _ _ _ _ _ => fts_nil) (fun _ _ _ _ _ => fe_call ih hr takesZ0 (fa_cons (fv 0) (fa_cons (fe_bin op_sub sr_sub (fv 1) (fe_int)) (fa_nil)))) (by rfl)) (fss_one (fs_ret (fe_if (ft_cmp (op_eqX hr.units) sr_eq (fe_call (h__law_grab.mono (by omega)) hr tkD (fa_cons (fv 0) (fa_cons (fe_int) (fa_nil)))) (fe_int)) (fv 3) (fe_ty call_tuple_of sc_tuple c.n_tuple (fa_cons (fv 3) (fa_nil)))))))
theorem ok__law_stuff (c : Facts g base) (h__law_grab : Fn g P w base 1 "_law_grab" 2 M__law_grab) (h__law_any : Fn g P w base 2 "_law_any" 2 M__law_any) : Fn g P w base 11 "_law_stuff" 2 M__law_stuff := by
  exact okR__law_stuff c h__law_grab h__law_any 8
theorem ok__law_kinds (c : Facts g base) (hK : ∀ n ∈ errs, ∀ C, g.mg n = some (.ref C) → PySem.W.kitOne g.K (.ref C) (.type "ValueError") = some true ∧ ∀ y ∈ clss, ∃ Y, g.mg y = some (.ref Y) ∧ PySem.W.kitOne g.K (.ref C) (.ref Y) = some (decide (n = y))) : FnX g P w base 1 "_law_kinds" M__law_kinds := by
  obtain ⟨fd, F⟩ := c.F__law_kinds
  have S : FnScope (["e", "some", "words", "word", "good"] : List Str) ["e"] d__law_kinds.scope := ⟨rfl, rfl, rfl, by decide +kernel, rfl, by decide +kernel, by decide +kernel⟩
  refine fnX_mk (k := 0) (sv := K__law_kinds) F c.G__law_kinds S (F.bindsN fun _ _ _ _ _ _ us hl => match us, hl with | [_], _ => rfl) rfl (fun cdv A outer s H E p n ho hot => ?_)
  unfold K__law_kinds
  by_cases hn : errs.contains n = true
  · rw [if_pos hn]
    have hX := hK n (by simpa using hn)
    exact fss_cons (fs_setN 1 S.nd (fe_lst (fa_cons ((fe_isX (q := p) 0 (List.mem_singleton.mpr rfl) ho c.n_isinstance (fun C hC => (hX C hC).2 "Broken" (by decide +kernel)))) (fa_cons ((fe_isX (q := p) 0 (List.mem_singleton.mpr rfl) ho c.n_isinstance (fun C hC => (hX C hC).2 "InvalidBase" (by decide +kernel)))) (fa_cons ((fe_isX (q := p) 0 (List.mem_singleton.mpr rfl) ho c.n_isinstance (fun C hC => (hX C hC).2 "InvalidBy" (by decide +kernel)))) (fa_cons ((fe_isX (q := p) 0 (List.mem_singleton.mpr rfl) ho c.n_isinstance (fun C hC => (hX C hC).2 "InvalidIndex" (by decide +kernel)))) (fa_nil))))))) (fss_cons (fs_setN 1 S.nd (fe_bin op_addX sr_add (fv 1) (fe_lst (fa_cons ((fe_isX (q := p) 0 (List.mem_singleton.mpr rfl) ho c.n_isinstance (fun C hC => (hX C hC).2 "InvalidLength" (by decide +kernel)))) (fa_cons ((fe_isX (q := p) 0 (List.mem_singleton.mpr rfl) ho c.n_isinstance (fun C hC => (hX C hC).2 "InvalidNumber" (by decide +kernel)))) (fa_cons ((fe_isX (q := p) 0 (List.mem_singleton.mpr rfl) ho c.n_isinstance (fun C hC => (hX C hC).2 "InvalidStep" (by decide +kernel)))) (fa_nil))))))) (fss_cons (fs_setN 1 S.nd (fe_bin op_addX sr_add (fv 1) (fe_lst (fa_cons ((fe_isX (q := p) 0 (List.mem_singleton.mpr rfl) ho c.n_isinstance (fun C hC => (hX C hC).2 "InvalidThing" (by decide +kernel)))) (fa_cons ((fe_isX (q := p) 0 (List.mem_singleton.mpr rfl) ho c.n_isinstance (fun C hC => (hX C hC).2 "InvalidTrick" (by decide +kernel)))) (fa_cons ((fe_isX (q := p) 0 (List.mem_singleton.mpr rfl) ho c.n_isinstance (fun C hC => (hX C hC).2 "InvalidWish" (by decide +kernel)))) (fa_nil))))))) (fss_cons (fs_setN 1 S.nd (fe_bin op_addX sr_add (fv 1) (fe_lst (fa_cons ((fe_isX (q := p) 0 (List.mem_singleton.mpr rfl) ho c.n_isinstance (fun C hC => (hX C hC).2 "NoText" (by decide +kernel)))) (fa_cons ((fe_isX (q := p) 0 (List.mem_singleton.mpr rfl) ho c.n_isinstance (fun C hC => (hX C hC).2 "NoTrick" (by decide +kernel)))) (fa_cons ((fe_isX (q := p) 0 (List.mem_singleton.mpr rfl) ho c.n_isinstance (fun C hC => (hX C hC).2 "NotWhole" (by decide +kernel)))) (fa_nil))))))) (fss_cons (fs_setN 1 S.nd (fe_bin op_addX sr_add (fv 1) (fe_lst (fa_cons ((fe_isX (q := p) 0 (List.mem_singleton.mpr rfl) ho c.n_isinstance (fun C hC => (hX C hC).2 "NothingToUndo" (by decide +kernel)))) (fa_cons ((fe_isX (q := p) 0 (List.mem_singleton.mpr rfl) ho c.n_isinstance (fun C hC => (hX C hC).2 "TooMany" (by decide +kernel)))) (fa_cons ((fe_isX (q := p) 0 (List.mem_singleton.mpr rfl) ho c.n_isinstance (fun C hC => (hX C hC).2 "Unlike" (by decide +kernel)))) (fa_nil))))))) (fss_cons (fs_app 1 ((fe_isXb (q := p) 0 (List.mem_singleton.mpr rfl) ho c.n_isinstance c.n_ValueError (fun C hC => (hX C hC).1)))) (fss_cons (fs_set 2 S.nd (fe_lst (fa_cons (fe_str) (fa_cons (fe_str) (fa_cons (fe_str) (fa_cons (fe_str) (fa_cons (fe_str) (fa_cons (fe_str) (fa_cons (fe_str) (fa_nil)))))))))) (fss_cons (fs_set 2 S.nd (fe_bin op_addX sr_add (fv 2) (fe_lst (fa_cons (fe_str) (fa_cons (fe_str) (fa_cons (fe_str) (fa_cons (fe_str) (fa_cons (fe_str) (fa_cons (fe_str) (fa_nil)))))))))) (fss_cons (fs_set 2 S.nd (fe_bin op_addX sr_add (fv 2) (fe_lst (fa_cons (fe_str) (fa_cons (fe_str) (fa_cons (fe_str) (fa_cons (fe_str) (fa_nil)))))))) (fss_one (fs_ret (fe_join (fe_str) (fe_lcH (own := [("word", 3), ("good", 4)]) hot S.nd (fih_zip (fa_cons (fv 2) (fa_cons (fv 1) (fa_nil))) rfl c.n_zip) (blkOk_by (by rfl)) (fun _ _ _ _ _ hb => fg_tupH hb (fgs_cons (fg_name 3 S.nd) (fgs_cons (fg_name 4 S.nd) (fgs_nil)))) (fun _ _ _ _ _ => fts_one (ft_val (fv 4))) (fun _ _ _ _ _ => fv 3)))))))))))))
  · rw [if_neg hn]
    exact fss_never
theorem ok__law_call (c : Facts g base) (hk : FnX g P w base 1 "_law_kinds" M__law_kinds) (hE : ∀ n ∈ errs, LawE g n (He.ga g.K n)) (hm : ∀ n ∈ errs, ∀ a, M__law_kinds n a [.val (.exc n a)] = .ok (.val (.str (n ++ " +"))) [.val (.exc n a)]) : LawDef g P w base 16 errs := by
  obtain ⟨fd, F⟩ := c.F__law_call
  have S : FnScope (["call_so", "found", "e"] : List Str) ["call_so"] d__law_call.scope := ⟨rfl, rfl, rfl, by decide +kernel, rfl, by decide +kernel, by decide +kernel⟩
  refine lawDef_mk F rfl rfl c.G__law_call S (F.bindsN fun _ _ _ _ _ _ us hl => match us, hl with | [_], _ => rfl) rfl (.inl rfl) (by decide) (by decide) fun X cdv h1 h2 h3 h4 h5 => ?_
  exact gives_law hk (by decide) hm (fun n hn => ⟨_, hE n hn⟩) c.G_TooMany c.G_ThinkError ⟨rfl, rfl, rfl, rfl, rfl, rfl⟩ h1 h2 h3 h4 h5
theorem ok__law_text_of (c : Facts g base)  : Fn g P w base 1 "_law_text_of" 1 M__law_text_of := by
  obtain ⟨fd, F⟩ := c.F__law_text_of
  have S : FnScope (["trick", "found", "items", "item"] : List Str) ["trick"] d__law_text_of.scope := ⟨rfl, rfl, rfl, by decide +kernel, rfl, by decide +kernel, by decide +kernel⟩
  refine fn_mk F c.G__law_text_of S (F.bindsN fun _ _ _ _ _ _ us hl => match us, hl with | [_], _ => rfl) rfl rfl (fun cdv A outer s H E hcd hr => ?_)
  exact fss_cons (fs_set 1 S.nd (fe_str)) (fss_cons (fs_for poD rfl (fi_seq (fe_bin op_addX sr_add (fe_ix ix_seq sr_ix (fv 0) (fe_int)) (fe_if (ft_cmp op_notN sr_notN (fe_ix ix_seq sr_ix (fv 0) (fe_int)) (fe_non)) (fe_tup (fa_cons (fe_ix ix_seq sr_ix (fv 0) (fe_int)) (fa_nil))) (fe_tup (fa_nil))))) (fg_name 2 S.nd) (fss_cons (fs_set 1 S.nd (fe_bin op_addX sr_add (fe_bin op_addX sr_add (fv 1) (fe_str)) (fe_ty cr_str sc_str c.n_str (fa_cons (fe_ix ix_seq sr_ix (fv 2) (fe_int)) (fa_nil))))) (fss_one (fs_for poD rfl (fi_seq (fe_sl (fv 2) (fo_some (fe_int)) (fo_none))) (fg_name 3 S.nd) (fss_one (fs_set 1 S.nd (fe_bin op_addX sr_add (fe_bin op_addX sr_add (fv 1) (fe_str)) (fe_ty cr_str sc_str c.n_str (fa_cons (fv 3) (fa_nil)))))))))) (fss_one (fs_ret (fv 1))))
theorem ok__law_item (c : Facts g base)  : Fn g P w base 1 "_law_item" 1 M__law_item := by
  obtain ⟨fd, F⟩ := c.F__law_item
  have S : FnScope (["word", "plain", "good", "sign"] : List Str) ["word"] d__law_item.scope := ⟨rfl, rfl, rfl, by decide +kernel, rfl, by decide +kernel, by decide +kernel⟩
  refine fn_mk F c.G__law_item S (F.bindsN fun _ _ _ _ _ _ us hl => match us, hl with | [_], _ => rfl) rfl rfl (fun cdv A outer s H E hcd hr => ?_)
  exact fss_cons (fs_set 1 S.nd (fe_if (ft_cmp (op_eqX hr.units) sr_eq (fe_sl (fv 0) (fo_none) (fo_some (fe_int))) (fe_str)) (fe_sl (fv 0) (fo_some (fe_int)) (fo_none)) (fv 0))) (fss_cons (fs_set 2 S.nd (fe_and (fe_chain op_lt sr_cmp op_lt sr_cmp (fe_int) (fe_blt call_len sc_len c.n_len (fa_cons (fv 1) (fa_nil))) (fe_int)) (fe_one (fe_cmp (op_eqX hr.units) sr_eq (fe_lc (own := [("sign", 3)]) rfl S.nd (fi_seq (fv 1)) (blkOk_by (by rfl)) (fun _ _ _ _ _ => fg_name 3 S.nd) (fun _ _ _ _ _ => fts_one (ft_cmp op_notIn_sign sr_ninS (fv 3) (fe_str))) (fun _ _ _ _ _ => fv 3)) (fe_lst (fa_nil)))))) (fss_cons (fs_if (ft_not (ft_val (fv 2))) (fss_one (fs_ret (fv 0))) (fss_nil)) (fss_one (fs_ret (fe_bin op_mulX sr_mul (fe_ty cr_int sc_int c.n_int (fa_cons (fv 1) (fa_nil))) (fe_if (ft_cmp (op_neX hr.units) sr_ne (fv 1) (fv 0)) (fe_un un_neg su_neg (fe_int)) (fe_int)))))))
theorem ok__law_due (c : Facts g base) (h__law_is_end : Fn g P w base 2 "_law_is_end" 1 M__law_is_end) (h__law_is_trick : Fn g P w base 3 "_law_is_trick" 1 M__law_is_trick) (h__law_text_of : Fn g P w base 1 "_law_text_of" 1 M__law_text_of) (h__law_item : Fn g P w base 1 "_law_item" 1 M__law_item) : Fn g P w base 4 "_law_due" 1 M__law_due := by
  obtain ⟨fd, F⟩ := c.F__law_due
  have S : FnScope (["thing", "rows", "end", "line", "trick", "word"] : List Str) ["thing"] d__law_due.scope := ⟨rfl, rfl, rfl, by decide +kernel, rfl, by decide +kernel, by decide +kernel⟩
  refine fn_mk F c.G__law_due S (F.bindsN fun _ _ _ _ _ _ us hl => match us, hl with | [_], _ => rfl) rfl rfl (fun cdv A outer s H E hcd hr => ?_)
  exact fss_cons (fs_if (ft_not (ft_val (fe_isi c.n_isinstance c.n_str (fv 0)))) (fss_one (fs_ret (fe_non))) (fss_nil)) (fss_cons (fs_par 1 2 rfl S.nd (fe_lst (fa_nil)) (fe_non)) (fss_cons (fs_for poD rfl (fi_seq (fe_sl (fe_split (fv 0) (fe_str)) (fo_some (fe_int)) (fo_none))) (fg_name 3 S.nd) (fss_one (fs_app 1 (fe_ty call_tuple_of sc_tuple c.n_tuple (fa_cons (fe_lc (own := [("word", 5)]) rfl S.nd (fi_seq (fe_split (fv 3) (fe_str))) (blkOk_by (by rfl)) (fun _ _ _ _ _ => fg_name 5 S.nd) (fun _ _ _ _ _ => fts_nil) (fun _ _ _ _ _ => fe_call (h__law_item.mono (by decide)) hr takesZ0 (fa_cons (fv 5) (fa_nil)))) (fa_nil)))))) (fss_cons (fs_if (ft_w (fw_and (ft_cmp (op_neX hr.units) sr_ne (fv 1) (fe_lst (fa_nil))) (fw_and1 (ft_val (fe_call (h__law_is_end.mono (by decide)) hr tkD (fa_cons (fe_ix ix_seq sr_ix (fv 1) (fe_un un_neg su_neg (fe_int))) (fa_nil))))))) (fss_one (fs_set 2 S.nd (fe_pop 1))) (fss_nil)) (fss_cons (fs_set 4 S.nd (fe_tup (fa_cons (fe_ty call_tuple_of sc_tuple c.n_tuple (fa_cons (fv 1) (fa_nil))) (fa_cons (fv 2) (fa_nil))))) (fss_one (fs_ret (fe_if (ft_w (fw_and (ft_val (fe_call (h__law_is_trick.mono (by decide)) hr tkD (fa_cons (fv 4) (fa_nil)))) (fw_and1 (ft_cmp (op_eqX hr.units) sr_eq (fe_call (h__law_text_of.mono (by decide)) hr tkD (fa_cons (fv 4) (fa_nil))) (fv 0))))) (fv 4) (fe_non))))))))
theorem ok__law_spoil (c : Facts g base) (h__law_grab : Fn g P w base 1 "_law_grab" 2 M__law_grab) (h__law_any : Fn g P w base 2 "_law_any" 2 M__law_any) : Fn g P w base 3 "_law_spoil" 2 M__law_spoil := by
  obtain ⟨fd, F⟩ := c.F__law_spoil
  have S : FnScope (["sack", "text", "spot", "turned", "put_d", "lines", "here", "others", "words", "at", "rest", "more"] : List Str) ["sack", "text"] d__law_spoil.scope := ⟨rfl, rfl, rfl, by decide +kernel, rfl, by decide +kernel, by decide +kernel⟩
  refine fn_mk F c.G__law_spoil S (F.bindsN fun _ _ _ _ _ _ us hl => match us, hl with | [_, _], _ => rfl) rfl rfl (fun cdv A outer s H E hcd hr => ?_)
  exact fss_cons (fs_par 2 3 rfl S.nd (fe_call (h__law_grab.mono (by decide)) hr tkD (fa_cons (fv 0) (fa_cons (fe_bin op_addX sr_add (fe_blt call_len sc_len c.n_len (fa_cons (fv 1) (fa_nil))) (fe_int)) (fa_nil)))) (fe_call (h__law_grab.mono (by decide)) hr tkD (fa_cons (fv 0) (fa_cons (fe_int) (fa_nil))))) (fss_cons (fs_if (ft_cmp (op_eqX hr.units) sr_eq (fv 3) (fe_int)) (fss_cons (fs_set 4 S.nd (fe_lst (fa_cons (fe_str) (fa_cons (fe_str) (fa_cons (fe_str) (fa_cons (fe_str) (fa_cons (fe_str) (fa_cons (fe_str) (fa_cons (fe_str) (fa_cons (fe_str) (fa_cons (fe_str) (fa_cons (fe_str) (fa_cons (fe_str) (fa_cons (fe_str) (fa_cons (fe_str) (fa_nil)))))))))))))))) (fss_one (fs_ret (fe_bin op_addX sr_add (fe_bin op_addX sr_add (fe_sl (fv 1) (fo_none) (fo_some (fv 2))) (fe_call (h__law_any.mono (by decide)) hr tkD (fa_cons (fv 0) (fa_cons (fv 4) (fa_nil))))) (fe_sl (fv 1) (fo_some (fv 2)) (fo_none)))))) (fss_nil)) (fss_cons (fs_if (ft_cmp (op_eqX hr.units) sr_eq (fv 3) (fe_int)) (fss_one (fs_ret (fe_bin op_addX sr_add (fe_sl (fv 1) (fo_none) (fo_some (fv 2))) (fe_sl (fv 1) (fo_some (fe_bin op_addX sr_add (fe_bin op_addX sr_add (fv 2) (fe_int)) (fe_call (h__law_grab.mono (by decide)) hr tkD (fa_cons (fv 0) (fa_cons (fe_int) (fa_nil)))))) (fo_none))))) (fss_nil)) (fss_cons (fs_set 5 S.nd (fe_split (fv 1) (fe_str))) (fss_cons (fs_set 6 S.nd (fe_call (h__law_grab.mono (by decide)) hr tkD (fa_cons (fv 0) (fa_cons (fe_blt call_len sc_len c.n_len (fa_cons (fv 5) (fa_nil))) (fa_nil))))) (fss_cons (fs_if (ft_cmp (op_eqX hr.units) sr_eq (fv 3) (fe_int)) (fss_cons (fs_set 7 S.nd (fe_lst (fa_cons (fe_bin op_addX sr_add (fe_sl (fv 5) (fo_none) (fo_some (fv 6))) (fe_sl (fv 5) (fo_some (fe_bin op_addX sr_add (fv 6) (fe_int))) (fo_none))) (fa_cons (fe_bin op_addX sr_add (fv 5) (fe_sl (fv 5) (fo_some (fv 6)) (fo_some (fe_bin op_addX sr_add (fv 6) (fe_int))))) (fa_cons (fe_rv (fv 5)) (fa_nil)))))) (fss_one (fs_ret (fe_join (fe_str) (fe_call (h__law_any.mono (by decide)) hr tkD (fa_cons (fv 0) (fa_cons (fv 7) (fa_nil)))))))) (fss_nil)) (fss_cons (fs_if (ft_cmp op_lt sr_cmp (fv 3) (fe_int)) (fss_cons (fs_set 8 S.nd (fe_split (fv 1) (fe_str))) (fss_cons (fs_set 9 S.nd (fe_call (h__law_grab.mono (by decide)) hr tkD (fa_cons (fv 0) (fa_cons (fe_blt call_len sc_len c.n_len (fa_cons (fv 8) (fa_nil))) (fa_nil))))) (fss_cons (fs_set 10 S.nd (fe_sl (fv 8) (fo_some (fe_bin op_addX sr_add (fv 9) (fe_call (h__law_grab.mono (by decide)) hr tkD (fa_cons (fv 0) (fa_cons (fe_int) (fa_nil)))))) (fo_none))) (fss_cons (fs_set 11 S.nd (fe_call (h__law_any.mono (by decide)) hr tkD (fa_cons (fv 0) (fa_cons (fe_bin op_addX sr_add (fv 8) (fe_lst (fa_cons (fe_str) (fa_cons (fe_str) (fa_cons (fe_str) (fa_cons (fe_str) (fa_cons (fe_str) (fa_cons (fe_str) (fa_cons (fe_str) (fa_cons (fe_str) (fa_nil))))))))))) (fa_nil))))) (fss_one (fs_ret (fe_join (fe_str) (fe_bin op_addX sr_add (fe_bin op_addX sr_add (fe_sl (fv 8) (fo_none) (fo_some (fv 9))) (fe_lst (fa_cons (fv 11) (fa_nil)))) (fv 10))))))))) (fss_nil)) (fss_one (fs_ret (fe_call (h__law_any.mono (by decide)) hr tkD (fa_cons (fv 0) (fa_cons (fe_lst (fa_cons (fe_bin op_addX sr_add (fv 1) (fe_str)) (fa_cons (fe_bin op_addX sr_add (fe_str) (fv 1)) (fa_cons (fe_bin op_addX sr_add (fv 1) (fe_str)) (fa_cons (fe_bin op_addX sr_add (fe_str) (fv 1)) (fa_cons (fe_str) (fa_cons (fe_bin op_addX sr_add (fv 1) (fe_str)) (fa_nil)))))))) (fa_nil))))))))))))
theorem ok_law (c : Facts g base) {fd : FuncData} (F : FunD g.K d_law.name d_law.qual d_law.params d_law.body d_law.scope [] [] (He.fAd g.K d_law.at_) fd) (h_read_trick : Fn g P w base 4 "read_trick" 1 M_read_trick) (h__law_sack : Fn g P w base 1 "_law_sack" 2 M__law_sack) (h__law_trick : Fn g P w base 4 "_law_trick" 3 M__law_trick) (h__law_stuff : Fn g P w base 11 "_law_stuff" 2 M__law_stuff) (h__law_text_of : Fn g P w base 1 "_law_text_of" 1 M__law_text_of) (h__law_due : Fn g P w base 4 "_law_due" 1 M__law_due) (h__law_spoil : Fn g P w base 3 "_law_spoil" 2 M__law_spoil) (hW : LawDef g P w base 16 errs) : FnOk P w g.K g.mg base (L2N.CX P w) 19 (He.fAd g.K d_law.at_) fd ["script"] (spF g 1 M_law) := by
  have S : FnScope (["script", "k", "sack", "text", "once", "things_so", "found", "due", "thing"] : List Str) ["script"] d_law.scope := ⟨rfl, rfl, rfl, by decide +kernel, rfl, by decide +kernel, by decide +kernel⟩
  refine fn_ok F S rfl rfl (fun cdv A outer s H E hcd hr => ?_)
  have hM := c.L_law (cxOf (L2N.CX P w) P w g.K g.mg base ["script", "k", "sack", "text", "once", "things_so", "found", "due", "thing"] d_law.qual d_law.scope (He.fAd g.K d_law.at_) cdv A outer s H E) rfl rfl hcd rfl
  exact fss_cons (fs_for poD rfl (fi_rng1 rfl c.n_range (fe_blt (call_max2 rfl) sc_max2 c.n_max (fa_cons (fe_int) (fa_cons (fe_blt (call_min2 rfl) sc_min2 c.n_min (fa_cons (fe_int) (fa_cons (fe_blt call_len sc_len c.n_len (fa_cons (fv 0) (fa_nil))) (fa_nil)))) (fa_nil))))) (fg_name 1 S.nd) (fss_cons (fs_setN 2 S.nd (fe_call (h__law_sack.mono (by decide)) hr tkD (fa_cons (fv 0) (fa_cons (fv 1) (fa_nil))))) (fss_cons (fs_set 3 S.nd (fe_call (h__law_text_of.mono (by decide)) hr tkD (fa_cons (fe_call (h__law_trick.mono (by decide)) hr tkD (fa_cons (fv 2) (fa_cons (fe_int) (fa_cons (fe_int) (fa_nil))))) (fa_nil)))) (fss_cons (fs_set 4 S.nd (fe_call (h__law_spoil.mono (by decide)) hr tkD (fa_cons (fv 2) (fa_cons (fv 3) (fa_nil))))) (fss_cons (fs_setN 5 S.nd (fe_lst (fa_cons (fv 3) (fa_cons (fv 4) (fa_cons (fe_call (h__law_spoil.mono (by decide)) hr tkD (fa_cons (fv 2) (fa_cons (fv 4) (fa_nil)))) (fa_cons (fe_call (h__law_spoil.mono (by decide)) hr tkD (fa_cons (fv 2) (fa_cons (fv 3) (fa_nil)))) (fa_cons (fe_call (h__law_spoil.mono (by decide)) hr tkD (fa_cons (fv 2) (fa_cons (fv 3) (fa_nil)))) (fa_cons (fe_upper (fv 3)) (fa_nil))))))))) (fss_cons (fs_setN 5 S.nd (fe_bin op_addX sr_add (fv 5) (fe_lst (fa_cons (fe_str) (fa_cons (fe_str) (fa_cons (fe_str) (fa_cons (fe_str) (fa_cons (fe_str) (fa_cons (fe_str) (fa_nil)))))))))) (fss_cons (fs_setN 5 S.nd (fe_bin op_addX sr_add (fv 5) (fe_lst (fa_cons (fe_str) (fa_cons (fe_str) (fa_cons (fe_str) (fa_nil))))))) (fss_cons (fs_app 5 (fe_str)) (fss_cons (fs_app 5 (fe_call (h__law_stuff.mono (by decide)) hr tkD (fa_cons (fv 2) (fa_cons (fe_int) (fa_nil))))) (fss_one (fs_for poD rfl (fi_seq (fv 5)) (fg_name 8 S.nd) (fss_cons (fs_set 6 S.nd (fe_call (h__law_due.mono (by decide)) hr tkD (fa_cons (fv 8) (fa_nil)))) (fss_cons (fs_set 7 S.nd (fe_if (ft_cmp op_notN sr_notN (fv 6) (fe_non)) (fe_tup (fa_cons (fe_str) (fa_cons (fv 6) (fa_nil)))) (fe_tup (fa_cons (fe_str) (fa_nil))))) (fss_one (fs_if (ft_cmp (op_neX hr.units) sr_ne (fe_law hW hM hr (fun A2 outer2 s2 H2 E2 f2 c2 hr2 => fe_call (h_read_trick.mono (by decide)) hr2 tkL (fa_cons (fv 8) (fa_nil)))) (fv 7)) (fss_one (fs_ret (fe_bl))) (fss_nil)))))))))))))))) (fss_one (fs_ret (fe_cmp (op_eqX hr.units) sr_eq (fe_call (h_read_trick.mono (by decide)) hr tkD (fa_cons (fe_str) (fa_nil))) (fe_tup (fa_cons (fe_tup (fa_cons (fe_tup (fa_cons (fe_str) (fa_cons (fe_un un_neg su_neg (fe_int)) (fa_cons (fe_str) (fa_nil))))) (fa_nil))) (fa_cons (fe_tup (fa_cons (fe_str) (fa_nil))) (fa_nil)))))))
end
end LW
namespace LW
open PySem PySem.Spec PyProof.Rows L2 FX

theorem facts_of {K : PySem.W.Frag} {w : World} {h h0 : Heap} {mg : Str → Option Value} (KX : K.In h) (G : h.Ns mainGlobals mg) (c : He.SaysX hfa hfn [] (tf.map (·.1)) hex w h0 K) (TB : ∀ p ∈ (tf.map (·.1)).map (He.cT K), LamX.TabB h mg p.1 p.2) : Facts ⟨K, mg, lamT K tf⟩ h := by
  have hx := c.more
  simp only [hex, Bool.and_eq_true] at hx
  obtain ⟨hE, hl, t0⟩ := hx
  exact {
    n_ValueError := He.free_ok KX G (c.t.d.fact 0 (f := .free "ValueError") rfl)
    n_abs := He.free_ok KX G (c.t.d.fact 1 (f := .free "abs") rfl)
    n_all := He.free_ok KX G (c.t.d.fact 2 (f := .free "all") rfl)
    n_bool := He.free_ok KX G (c.t.d.fact 3 (f := .free "bool") rfl)
    n_int := He.free_ok KX G (c.t.d.fact 4 (f := .free "int") rfl)
    n_isinstance := He.free_ok KX G (c.t.d.fact 5 (f := .free "isinstance") rfl)
    n_len := He.free_ok KX G (c.t.d.fact 6 (f := .free "len") rfl)
    n_max := He.free_ok KX G (c.t.d.fact 7 (f := .free "max") rfl)
    n_min := He.free_ok KX G (c.t.d.fact 8 (f := .free "min") rfl)
    n_range := He.free_ok KX G (c.t.d.fact 9 (f := .free "range") rfl)
    n_str := He.free_ok KX G (c.t.d.fact 10 (f := .free "str") rfl)
    n_tuple := He.free_ok KX G (c.t.d.fact 11 (f := .free "tuple") rfl)
    n_zip := He.free_ok KX G (c.t.d.fact 12 (f := .free "zip") rfl)
    G_is_int := He.glo_ok KX G (c.t.d.fact 13 (f := .glo "is_int") rfl)
    F_is_int := c.t.d.def_ 0 (d := d_is_int) rfl
    G_is_thing := He.glo_ok KX G (c.t.d.fact 14 (f := .glo "is_thing") rfl)
    F_is_thing := c.t.d.def_ 1 (d := d_is_thing) rfl
    G_is_step := He.glo_ok KX G (c.t.d.fact 15 (f := .glo "is_step") rfl)
    F_is_step := c.t.d.def_ 2 (d := d_is_step) rfl
    G_is_end := He.glo_ok KX G (c.t.d.fact 16 (f := .glo "is_end") rfl)
    F_is_end := c.t.d.def_ 3 (d := d_is_end) rfl
    G_shared_by := He.glo_ok KX G (c.t.d.fact 17 (f := .glo "shared_by") rfl)
    F_shared_by := c.t.d.def_ 4 (d := d_shared_by) rfl
    G_is_trick := He.glo_ok KX G (c.t.d.fact 18 (f := .glo "is_trick") rfl)
    F_is_trick := c.t.d.def_ 5 (d := d_is_trick) rfl
    G_line_of := He.glo_ok KX G (c.t.d.fact 19 (f := .glo "line_of") rfl)
    F_line_of := c.t.d.def_ 6 (d := d_line_of) rfl
    G_text_of := He.glo_ok KX G (c.t.d.fact 20 (f := .glo "text_of") rfl)
    F_text_of := c.t.d.def_ 7 (d := d_text_of) rfl
    G_item_in := He.glo_ok KX G (c.t.d.fact 21 (f := .glo "item_in") rfl)
    F_item_in := c.t.d.def_ 8 (d := d_item_in) rfl
    G_items_in := He.glo_ok KX G (c.t.d.fact 22 (f := .glo "items_in") rfl)
    F_items_in := c.t.d.def_ 9 (d := d_items_in) rfl
    G_trick_in := He.glo_ok KX G (c.t.d.fact 23 (f := .glo "trick_in") rfl)
    F_trick_in := c.t.d.def_ 10 (d := d_trick_in) rfl
    G_read_trick := He.glo_ok KX G (c.t.d.fact 24 (f := .glo "read_trick") rfl)
    F_read_trick := c.t.d.def_ 11 (d := d_read_trick) rfl
    G__law_sack := He.glo_ok KX G (c.t.d.fact 25 (f := .glo "_law_sack") rfl)
    F__law_sack := c.t.d.def_ 12 (d := d__law_sack) rfl
    G__law_grab := He.glo_ok KX G (c.t.d.fact 26 (f := .glo "_law_grab") rfl)
    F__law_grab := c.t.d.def_ 13 (d := d__law_grab) rfl
    G__law_any := He.glo_ok KX G (c.t.d.fact 27 (f := .glo "_law_any") rfl)
    F__law_any := c.t.d.def_ 14 (d := d__law_any) rfl
    G__law_words := He.glo_ok KX G (c.t.d.fact 28 (f := .glo "_law_words") rfl)
    F__law_words := c.t.d.def_ 15 (d := d__law_words) rfl
    G__law_step := He.glo_ok KX G (c.t.d.fact 29 (f := .glo "_law_step") rfl)
    F__law_step := c.t.d.def_ 16 (d := d__law_step) rfl
    G__law_product := He.glo_ok KX G (c.t.d.fact 30 (f := .glo "_law_product") rfl)
    F__law_product := c.t.d.def_ 17 (d := d__law_product) rfl
    G__law_trick := He.glo_ok KX G (c.t.d.fact 31 (f := .glo "_law_trick") rfl)
    F__law_trick := c.t.d.def_ 18 (d := d__law_trick) rfl
    G__law_tail := He.glo_ok KX G (c.t.d.fact 32 (f := .glo "_law_tail") rfl)
    F__law_tail := c.t.d.def_ 19 (d := d__law_tail) rfl
    G__law_is_whole := He.glo_ok KX G (c.t.d.fact 33 (f := .glo "_law_is_whole") rfl)
    F__law_is_whole := c.t.d.def_ 20 (d := d__law_is_whole) rfl
    G__law_is_step := He.glo_ok KX G (c.t.d.fact 34 (f := .glo "_law_is_step") rfl)
    F__law_is_step := c.t.d.def_ 21 (d := d__law_is_step) rfl
    G__law_is_end := He.glo_ok KX G (c.t.d.fact 35 (f := .glo "_law_is_end") rfl)
    F__law_is_end := c.t.d.def_ 22 (d := d__law_is_end) rfl
    G__law_is_trick := He.glo_ok KX G (c.t.d.fact 36 (f := .glo "_law_is_trick") rfl)
    F__law_is_trick := c.t.d.def_ 23 (d := d__law_is_trick) rfl
    G__law_stuff := He.glo_ok KX G (c.t.d.fact 37 (f := .glo "_law_stuff") rfl)
    F__law_stuff := c.t.d.def_ 24 (d := d__law_stuff) rfl
    G__law_kinds := He.glo_ok KX G (c.t.d.fact 38 (f := .glo "_law_kinds") rfl)
    F__law_kinds := c.t.d.def_ 25 (d := d__law_kinds) rfl
    G__law_call := He.glo_ok KX G (c.t.d.fact 39 (f := .glo "_law_call") rfl)
    F__law_call := c.t.d.def_ 26 (d := d__law_call) rfl
    G__law_text_of := He.glo_ok KX G (c.t.d.fact 40 (f := .glo "_law_text_of") rfl)
    F__law_text_of := c.t.d.def_ 27 (d := d__law_text_of) rfl
    G__law_item := He.glo_ok KX G (c.t.d.fact 41 (f := .glo "_law_item") rfl)
    F__law_item := c.t.d.def_ 28 (d := d__law_item) rfl
    G__law_due := He.glo_ok KX G (c.t.d.fact 42 (f := .glo "_law_due") rfl)
    F__law_due := c.t.d.def_ 29 (d := d__law_due) rfl
    G__law_spoil := He.glo_ok KX G (c.t.d.fact 43 (f := .glo "_law_spoil") rfl)
    F__law_spoil := c.t.d.def_ 30 (d := d__law_spoil) rfl
    G_law := He.glo_ok KX G (c.t.d.fact 44 (f := .glo "law") rfl)
    F_law := c.t.d.def_ 31 (d := d_law) rfl
    G_TooMany := He.glo_ok KX G (c.t.d.fact 45 (f := .glo "TooMany") rfl)
    G_ThinkError := He.glo_ok KX G (c.t.d.fact 46 (f := .glo "ThinkError") rfl)
    C_THINGS := ⟨He.glo_ok KX G (c.t.d.fact 47 (f := .glo "THINGS") rfl), t0⟩
    C_MOST_STEPS := He.int_ok KX G (c.t.d.fact 48 (f := .int "MOST_STEPS" 8) rfl)
    C_MOST_SHARED := He.int_ok KX G (c.t.d.fact 49 (f := .int "MOST_SHARED" 36) rfl)
    C_FIGURES := He.str_ok KX G (c.t.d.fact 50 (f := .str "FIGURES" "0123456789") rfl)
    L_law := fun X h1 h2 h3 h4 => lamMk_of hl TB (q := ("law", none)) (x := "law.<locals>.<lambda>") (by simp [tf]) h1 h2 h3 h4
  }
theorem law_ok {P : Program} {w : World} {K : PySem.W.Frag} {h0 base : Heap} {mg : Str → Option Value} {fd : FuncData} (c0 : He.SaysX hfa hfn [] (tf.map (·.1)) hex w h0 K) (F : FunD K d_law.name d_law.qual d_law.params d_law.body d_law.scope [] [] (He.fAd K d_law.at_) fd) (KX : K.In base) (G : base.Ns mainGlobals mg) (TB : ∀ p ∈ (tf.map (·.1)).map (He.cT K), LamX.TabB base mg p.1 p.2) :
    FnOk P w K mg base (L2N.CX P w) 19 (He.fAd K d_law.at_) fd ["script"] (spF ⟨K, mg, lamT K tf⟩ 1 M_law) := by
  have c := facts_of KX G c0 TB
  have hx := c0.more
  simp only [hex, Bool.and_eq_true] at hx
  have er := fun n (hn : n ∈ errs) => err_ok (T := lamT K tf) KX G hx.1 c.G_TooMany c.G_ThinkError hn
  have hE : ∀ n ∈ errs, LawE ⟨K, mg, lamT K tf⟩ n (He.ga K n) := fun n hn => (er n hn).1
  have gC : ∀ y ∈ clss, mg y = some (.ref (He.ga K y)) := fun y hy => by
    rcases List.mem_append.mp hy with hy | hy
    · exact (hE y hy).gl
    · rw [List.mem_singleton.mp hy]; exact c.G_TooMany
  have hK : ∀ n ∈ errs, ∀ C, mg n = some (.ref C) → PySem.W.kitOne K (.ref C) (.type "ValueError") = some true ∧ ∀ y ∈ clss, ∃ Y, mg y = some (.ref Y) ∧ PySem.W.kitOne K (.ref C) (.ref Y) = some (decide (n = y)) := fun n hn C hC => by
    have e := (hE n hn).gl
    have e2 : (some (Value.ref C) : Option Value) = some (.ref (He.ga K n)) := hC.symm.trans e
    cases e2
    exact ⟨(er n hn).2.1, fun y hy => ⟨_, gC y hy, (er n hn).2.2 y hy⟩⟩
  have cE : ∀ {b1 : Heap}, BExt base b1 → Facts ⟨K, mg, lamT K tf⟩ b1 := fun {b1} e => facts_of (KX.keeps e) (G.keeps e) c0 (fun p hp => tabB_ext e (TB p hp))
  have h_is_int := fun {b1 : Heap} (e : BExt base b1) => ok_is_int (P := P) (w := w) (cE e) 
  have h_is_thing := fun {b1 : Heap} (e : BExt base b1) => ok_is_thing (P := P) (w := w) (cE e) 
  have h_is_step := fun {b1 : Heap} (e : BExt base b1) => ok_is_step (P := P) (w := w) (cE e) (h_is_int e) (h_is_thing e)
  have h_is_end := fun {b1 : Heap} (e : BExt base b1) => ok_is_end (P := P) (w := w) (cE e) (h_is_int e)
  have h_shared_by := fun {b1 : Heap} (e : BExt base b1) => ok_shared_by (P := P) (w := w) (cE e) 
  have h_is_trick := fun {b1 : Heap} (e : BExt base b1) => ok_is_trick (P := P) (w := w) (cE e) (h_is_step e) (h_is_end e) (h_shared_by e)
  have h_line_of := fun {b1 : Heap} (e : BExt base b1) => ok_line_of (P := P) (w := w) (cE e) 
  have h_text_of := fun {b1 : Heap} (e : BExt base b1) => ok_text_of (P := P) (w := w) (cE e) (h_line_of e)
  have h_item_in := fun {b1 : Heap} (e : BExt base b1) => ok_item_in (P := P) (w := w) (cE e) 
  have h_items_in := fun {b1 : Heap} (e : BExt base b1) => ok_items_in (P := P) (w := w) (cE e) (h_item_in e)
  have h_trick_in := fun {b1 : Heap} (e : BExt base b1) => ok_trick_in (P := P) (w := w) (cE e) (h_items_in e)
  have h_read_trick := fun {b1 : Heap} (e : BExt base b1) => ok_read_trick (P := P) (w := w) (cE e) (h_is_trick e) (h_text_of e) (h_trick_in e) hE
  have h__law_sack := fun {b1 : Heap} (e : BExt base b1) => ok__law_sack (P := P) (w := w) (cE e) 
  have h__law_grab := fun {b1 : Heap} (e : BExt base b1) => ok__law_grab (P := P) (w := w) (cE e) 
  have h__law_any := fun {b1 : Heap} (e : BExt base b1) => ok__law_any (P := P) (w := w) (cE e) (h__law_grab e)
  have h__law_words := fun {b1 : Heap} (e : BExt base b1) => ok__law_words (P := P) (w := w) (cE e) 
  have h__law_step := fun {b1 : Heap} (e : BExt base b1) => ok__law_step (P := P) (w := w) (cE e) (h__law_grab e) (h__law_any e) (h__law_words e)
  have h__law_product := fun {b1 : Heap} (e : BExt base b1) => ok__law_product (P := P) (w := w) (cE e) 
  have h__law_tail := fun {b1 : Heap} (e : BExt base b1) => ok__law_tail (P := P) (w := w) (cE e) (h__law_grab e)
  have h__law_trick := fun {b1 : Heap} (e : BExt base b1) => ok__law_trick (P := P) (w := w) (cE e) (h__law_grab e) (h__law_any e) (h__law_words e) (h__law_step e) (h__law_product e) (h__law_tail e)
  have h__law_is_whole := fun {b1 : Heap} (e : BExt base b1) => ok__law_is_whole (P := P) (w := w) (cE e) 
  have h__law_is_step := fun {b1 : Heap} (e : BExt base b1) => ok__law_is_step (P := P) (w := w) (cE e) (h__law_words e) (h__law_is_whole e)
  have h__law_is_end := fun {b1 : Heap} (e : BExt base b1) => ok__law_is_end (P := P) (w := w) (cE e) (h__law_is_whole e)
  have h__law_is_trick := fun {b1 : Heap} (e : BExt base b1) => ok__law_is_trick (P := P) (w := w) (cE e) (h__law_product e) (h__law_is_step e) (h__law_is_end e)
  have h__law_stuff := fun {b1 : Heap} (e : BExt base b1) => ok__law_stuff (P := P) (w := w) (cE e) (h__law_grab e) (h__law_any e)
  have h__law_kinds := fun {b1 : Heap} (e : BExt base b1) => ok__law_kinds (P := P) (w := w) (cE e) hK
  have h__law_call := fun {b1 : Heap} (e : BExt base b1) => ok__law_call (P := P) (w := w) (cE e) (h__law_kinds e) hE kinds_ok
  have h__law_text_of := fun {b1 : Heap} (e : BExt base b1) => ok__law_text_of (P := P) (w := w) (cE e) 
  have h__law_item := fun {b1 : Heap} (e : BExt base b1) => ok__law_item (P := P) (w := w) (cE e) 
  have h__law_due := fun {b1 : Heap} (e : BExt base b1) => ok__law_due (P := P) (w := w) (cE e) (h__law_is_end e) (h__law_is_trick e) (h__law_text_of e) (h__law_item e)
  have h__law_spoil := fun {b1 : Heap} (e : BExt base b1) => ok__law_spoil (P := P) (w := w) (cE e) (h__law_grab e) (h__law_any e)
  exact ok_law c F (h_read_trick (BExt.refl base)) (h__law_sack (BExt.refl base)) (h__law_trick (BExt.refl base)) (h__law_stuff (BExt.refl base)) (h__law_text_of (BExt.refl base)) (h__law_due (BExt.refl base)) (h__law_spoil (BExt.refl base)) (h__law_call (BExt.refl base))
theorem noCX {P : Program} {w : World} {H : Hp} {s : Shared} {e : Value} {s2 : Shared} (h : L2N.CX P w [] H s (fun _ _ _ => False) e s2) : False := by
  obtain ⟨_, _, _, _, _, _, _, _, _, _, _, _, hE⟩ := h
  exact hE
end LW
open PySem PySem.W PySem.Calls PyProof.Rows
theorem PySem.Challenge.cw_thinkfigures_k17_spoilt_texts_holds : PySem.Challenge.rw_thinkfigures_k17_spoilt_texts.Holds := by
  w_on; o_law
  refine HandSHeadRun.head_any (r := OpenLaw.row PySem.Challenge.rw_thinkfigures_k17_spoilt_texts) (q := view (OpenLaw.row PySem.Challenge.rw_thinkfigures_k17_spoilt_texts).prog [56]) (H := LW.hk) (ob := LW.hob) (M := 20000) (loose := LW.loose) (d := HandSHeadRun.topDef (OpenLaw.row PySem.Challenge.rw_thinkfigures_k17_spoilt_texts).prog 56) (kwd := []) LW.hob_eq
    (by kernel_rfl) (fun s => by kernel_rfl) LW.hrun (by kernel_rfl) (by kernel_rfl) (by kernel_rfl) (by rfl) (by first | assumption | decide +kernel) (by decide +kernel) ⟨rfl, rfl, rfl, rfl, rfl, by decide +kernel⟩ ?hw ?hc
  case hw => w_witness2
  case hc =>
    refine LamX.walk_ofTsE (l := PySem.Challenge.rw_thinkfigures_k17_spoilt_texts) (n := 63) (k := 19) (x := "script") (CX := fun w => L2N.CX (PySem.Challenge.rw_thinkfigures_k17_spoilt_texts).prog w) rfl (by decide) (by kernel_rfl) ⟨rfl, by decide, by decide⟩ ?F (fun _ _ _ _ _ z => ?Z)
    case Z => exact LW.noCX z
    intro w mg fa h Y G hmg0
    obtain ⟨K, KX, c⟩ := Y
    have hmg : mg ("law" : PySem.Str) = some (.ref fa) := by
      have e : (HandSHeadRun.topDef (OpenLaw.row PySem.Challenge.rw_thinkfigures_k17_spoilt_texts).prog 56).name = ("law" : PySem.Str) := by kernel_rfl
      rw [← e]
      exact hmg0
    obtain ⟨fd, F⟩ := c.t.d.def_ 31 (d := LW.d_law) rfl
    have e := hmg.symm.trans (He.glo_ok KX G (c.t.d.fact 44 (f := .glo "law") rfl))
    cases e
    have b := L2.FunD.bindsA (ps := ["script"]) F fun _ _ _ _ _ _ us hl => match us, hl with | [_], _ => rfl
    exact ⟨K, KX, FX.lawAt_mk KX c (fun s v => b s [v] rfl) (fun base X2 G2 TB => LW.law_ok c F X2 G2 TB) fun ns hl hz => ⟨_, LW.plain_law ns⟩⟩
