import PyProof.Rows.All
import Wide.All
import OpenK.AllK
import Wide.FinOn
import PySem.Challenge.RW_pressnotes_k19_refusals_apart
import HandS.ForExc
import HandS.Comp
import HandS.Dict
import HandS.Iter
import HandS.Walk
import HandS.Deep
import HandS.TupAny
import HandS.IsInst
import HandS.ExcCtx
import HandS.HotCalls
import HandS.ExcInit
import HandS.Wide
import HandS.Text
import HandS.Style
import HandS.ExcField
import HandS.ExcIs
import KE.KExcIs
import HandS.Words
import HandS.Defaults
import HandS.Head0
import HandS.Head1
import HandS.Head2
import HandS.HeadEnd
import HandS.HeadHook1
import HandS.HeadHook2
import KE.KStateDown
set_option Elab.async false
set_option linter.all false
set_option maxRecDepth 100000
/-! Ev1: values, store, results, combinators (no program in sight). -/
namespace Ev
open PySem

/-- a value: lists, dicts, instances are places of the store -/
inductive W where
  | non
  | bl (b : Bool)
  | int (i : Int)
  | str (x : Str)
  | tup (ws : List W)
  | loc (n : Nat)
  /-- a list that nobody may write (the script) -/
  | rol (ws : List W)
  /-- a caught exception: its class, its fields -/
  | exn (c : Str) (ns : List Str) (ws : List W)

/-- what an expression gives: a value, or a list that nobody else knows -/
inductive T where
  | w (x : W)
  | l (ws : List W)

inductive LO where
  | lst (ws : List W)
  | ins (c : Str) (ns : List Str) (ws : List W)
  | dic (kvs : List (W × W))
  | dicL (kvs : List (W × W))

abbrev Store := List LO
abbrev Rho := List (Option W)

inductive R (α : Type) where
  | ok (a : α) (S : Store)
  | exc (c : Str) (ns : List Str) (ws : List W) (S : Store)
  | no

def R.bind {α β : Type} (r : R α) (f : α → Store → R β) : R β :=
  match r with
  | .ok a S => f a S
  | .exc c ns ws S => .exc c ns ws S
  | .no => .no
@[simp] theorem R.ok_bind {α β : Type} (a : α) (S : Store) (f : α → Store → R β) : (R.ok a S).bind f = f a S := rfl
@[simp] theorem R.exc_bind {α β : Type} (c : Str) (ns : List Str) (ws : List W) (S : Store) (f : α → Store → R β) : (R.exc c ns ws S : R α).bind f = .exc c ns ws S := rfl
@[simp] theorem R.no_bind {α β : Type} (f : α → Store → R β) : (R.no : R α).bind f = .no := rfl

/-- what a statement gives -/
inductive RS where
  | next (ρ : Rho) (S : Store)
  | ret (t : T) (S : Store)
  | brk (ρ : Rho) (S : Store)
  | cnt (ρ : Rho) (S : Store)
  | exc (c : Str) (ns : List Str) (ws : List W) (ρ : Rho) (S : Store)
  | no

abbrev ME := Rho → Store → R T
abbrev MT := Rho → Store → R Bool
abbrev MA := Rho → Store → R (List W)
abbrev MS := Rho → Store → RS

/-- from an expression to a statement -/
def R.thenS {α : Type} (r : R α) (ρ : Rho) (f : α → Store → RS) : RS :=
  match r with
  | .ok a S => f a S
  | .exc c ns ws S => .exc c ns ws ρ S
  | .no => .no
@[simp] theorem R.ok_thenS {α : Type} (a : α) (S : Store) (ρ : Rho) (f : α → Store → RS) : (R.ok a S).thenS ρ f = f a S := rfl
@[simp] theorem R.exc_thenS {α : Type} (c : Str) (ns : List Str) (ws : List W) (S : Store) (ρ : Rho) (f : α → Store → RS) : (R.exc c ns ws S : R α).thenS ρ f = .exc c ns ws ρ S := rfl
@[simp] theorem R.no_thenS {α : Type} (ρ : Rho) (f : α → Store → RS) : (R.no : R α).thenS ρ f = .no := rfl
def RS.seq (r : RS) (f : Rho → Store → RS) : RS :=
  match r with
  | .next ρ S => f ρ S
  | r => r
@[simp] theorem RS.next_seq (ρ : Rho) (S : Store) (f : Rho → Store → RS) : (RS.next ρ S).seq f = f ρ S := rfl
@[simp] theorem RS.ret_seq (t : T) (S : Store) (f : Rho → Store → RS) : (RS.ret t S).seq f = .ret t S := rfl
@[simp] theorem RS.brk_seq (ρ : Rho) (S : Store) (f : Rho → Store → RS) : (RS.brk ρ S).seq f = .brk ρ S := rfl
@[simp] theorem RS.cnt_seq (ρ : Rho) (S : Store) (f : Rho → Store → RS) : (RS.cnt ρ S).seq f = .cnt ρ S := rfl
@[simp] theorem RS.exc_seq (c : Str) (ns : List Str) (ws : List W) (ρ : Rho) (S : Store) (f : Rho → Store → RS) : (RS.exc c ns ws ρ S).seq f = .exc c ns ws ρ S := rfl
@[simp] theorem RS.no_seq (f : Rho → Store → RS) : RS.no.seq f = .no := rfl

/-! ### places below n -/
mutual
def W.lb (n : Nat) : W → Bool
  | .loc m => decide (m < n)
  | .tup ws => W.lbs n ws
  | .rol ws => W.lbs n ws
  | .exn _ _ ws => W.lbs n ws
  | _ => true
def W.lbs (n : Nat) : List W → Bool
  | [] => true
  | w :: ws => W.lb n w && W.lbs n ws
end
def T.lb (n : Nat) : T → Bool
  | .w x => x.lb n
  | .l ws => W.lbs n ws
def LO.lb (n : Nat) : LO → Bool
  | .lst ws => W.lbs n ws
  | .ins _ _ ws => W.lbs n ws
  | .dic kvs => W.lbs n (kvs.map (·.1)) && W.lbs n (kvs.map (·.2))
  | .dicL kvs => W.lbs n (kvs.map (·.1)) && W.lbs n (kvs.map (·.2))

/-- at a def's end: what was made in it and is not handed back is forgotten -/
def Kept (S S' : Store) : Prop := S.length ≤ S'.length ∧ ∀ i, i < S.length → S'[i]? = S[i]? ∨ ∃ o, S'[i]? = some o ∧ o.lb S.length = true
/-- a local list handed back is a list that nobody else knows -/
def T.open (n : Nat) (S' : Store) : T → T
  | .w (.loc m) => if n ≤ m then (match S'[m]? with | some (.lst ws) => .l ws | _ => .w (.loc m)) else .w (.loc m)
  | t => t
open Classical in
noncomputable def gc (S : Store) (t : T) (S' : Store) : R T :=
  if Kept S S' ∧ (t.open S.length S').lb S.length = true then .ok (t.open S.length S') (S'.take S.length) else .ok t S'
open Classical in
noncomputable def gcx (S : Store) (c : Str) (ns : List Str) (ws : List W) (S' : Store) : R T :=
  if Kept S S' ∧ W.lbs S.length ws = true then .exc c ns ws (S'.take S.length) else .exc c ns ws S'
/-- a def: n names in all -/
noncomputable def mdef (n : Nat) (body : MS) (args : List W) (S : Store) : R T :=
  match body (args.map some ++ List.replicate (n - args.length) none) S with
  | .ret t S' => gc S t S'
  | .next _ S' => gc S (.w .non) S'
  | .exc c ns ws _ S' => gcx S c ns ws S'
  | _ => .no

/-! ### expressions -/
/-- a caught exception is no value of an expression -/
def m_var (i : Nat) : ME := fun ρ S => match ρ[i]? with
  | some (some (.exn _ _ _)) => .no
  | some (some w) => .ok (.w w) S
  | _ => .no
def m_c (w : W) : ME := fun _ S => .ok (.w w) S
def m_op2 (f : T → T → Store → R T) (a b : ME) : ME := fun ρ S => (a ρ S).bind fun x S1 => (b ρ S1).bind fun y S2 => f x y S2
def m_op1 (f : T → Store → R T) (a : ME) : ME := fun ρ S => (a ρ S).bind fun x S1 => f x S1
/-- a value, whatever it was -/
def settle (t : T) (S : Store) : R W :=
  match t with
  | .w x => .ok x S
  | .l ws => .ok (.loc S.length) (S ++ [.lst ws])
@[simp] theorem settle_w (x : W) (S : Store) : settle (.w x) S = .ok x S := rfl
@[simp] theorem settle_l (ws : List W) (S : Store) : settle (.l ws) S = .ok (.loc S.length) (S ++ [.lst ws]) := rfl
def m_nil : MA := fun _ S => .ok [] S
def m_cons (a : ME) (r : MA) : MA := fun ρ S => (a ρ S).bind fun t S1 => (settle t S1).bind fun x S2 => (r ρ S2).bind fun xs S3 => .ok (x :: xs) S3

end Ev

set_option Elab.async false
set_option linter.all false
set_option maxRecDepth 100000
/-! Ev2: values of the layer against HandS's; judgements. -/
namespace Ev
open PySem PySem.Spec PyProof.Rows L2

abbrev St := L2.St
structure Gd where
  K : PySem.W.Frag
  mg : Str → Option Value
  /-- the exception that is handled -/
  hp : Option (Addr × Obj)

def RoL (K : PySem.W.Frag) (H : Hp) (a : Addr) (xs : List V) : Prop :=
  (∃ o, H a = some (.frz o (.lst xs))) ∨
    ∃ (o : Obj) (its : Array Value) (n : Nat), K.lookup a = some o ∧ o.cls = .type "list" ∧ o.dict = none ∧ o.data = .seq its n ∧ its.size ≤ sizeLine ∧ Vals xs its.toList
theorem RoL.sq {K : PySem.W.Frag} {H : Hp} {a : Addr} {xs : List V} (h : RoL K H a xs) : SqL K H a xs := by
  rcases h with ⟨o, h⟩ | h
  · exact .inl (.inr ⟨o, h⟩)
  · exact .inr h

mutual
def Rep (g : Gd) (H : Hp) (φ : List Addr) : W → V → Prop
  | .non, v => v = .non
  | .bl b, v => v = .bl b
  | .int i, v => v = .int i
  | .str x, v => v = .str x
  | .tup ws, v => ∃ a xs, v = .ref a ∧ SqT g.K H a xs ∧ Reps g H φ ws xs
  | .loc n, v => ∃ a, φ[n]? = some a ∧ v = .ref a
  | .rol ws, v => ∃ a xs, v = .ref a ∧ RoL g.K H a xs ∧ Reps g H φ ws xs
  | .exn _ _ _, _ => False
def Reps (g : Gd) (H : Hp) (φ : List Addr) : List W → List V → Prop
  | [], xs => xs = []
  | w :: ws, xs => ∃ x r, xs = x :: r ∧ Rep g H φ w x ∧ Reps g H φ ws r
end
def TRep (g : Gd) (H : Hp) (φ : List Addr) : T → V → Prop
  | .w x, v => Rep g H φ x v
  | .l ws, v => ∃ a xs, v = .ref a ∧ a ∉ φ ∧ H a = some (.lst xs) ∧ Reps g H φ ws xs
/-- what an exception bears -/
def XRep (g : Gd) (H : Hp) (φ : List Addr) (d : Option Addr) (ns : List Str) (ws : List W) : Prop :=
  (ns = [] ∧ d = none) ∨ ∃ dd fs xs, d = some dd ∧ H dd = some (.xd fs) ∧ Reps g H φ ws xs ∧ ∀ (i : Nat) (n : Str) (x : V), ns[i]? = some n → xs[i]? = some x → fs.lookup n = some x

/-- keys of dicts -/
def kW : Key → W
  | .inl k => .int k
  | .inr x => .str x
def ORep (g : Gd) (H : Hp) (φ : List Addr) (a : Addr) : LO → Prop
  | .lst ws => ∃ xs, H a = some (.lst xs) ∧ Reps g H φ ws xs
  | .ins c ns ws => ∃ C dx xs, g.mg c = some (.ref C) ∧ ns.length = ws.length ∧ H a = some (.ins C dx (ns.zip xs)) ∧ Reps g H φ ws xs
  | .dic kvs => (∃ (ks : List Key) (xs : List V), ks.length = kvs.length ∧ kvs.map (·.1) = ks.map kW ∧ H a = some (.dK (ks.zip xs)) ∧ Reps g H φ (kvs.map (·.2)) xs) ∨
      (∃ (ks : List (List Key)) (xs : List V), ks.length = kvs.length ∧ kvs.map (·.1) = ks.map (fun k => W.tup (k.map kW)) ∧ H a = some (.dT (ks.zip xs)) ∧ Reps g H φ (kvs.map (·.2)) xs)
  | .dicL kvs => ∃ o, (∃ (ks : List Key) (xs : List V), ks.length = kvs.length ∧ kvs.map (·.1) = ks.map kW ∧ H a = some (.frz o (.dK (ks.zip xs))) ∧ Reps g H φ (kvs.map (·.2)) xs) ∨
      (∃ (ks : List (List Key)) (xs : List V), ks.length = kvs.length ∧ kvs.map (·.1) = ks.map (fun k => W.tup (k.map kW)) ∧ H a = some (.frz o (.dT (ks.zip xs))) ∧ Reps g H φ (kvs.map (·.2)) xs)
structure SRep (g : Gd) (H : Hp) (φ : List Addr) (S : Store) : Prop where
  len : φ.length = S.length
  nd : φ.Nodup
  at_ : ∀ (i : Nat) (a : Addr) (o : LO), φ[i]? = some a → S[i]? = some o → ORep g H φ a o

structure Ext (H : Hp) (φ : List Addr) (H' : Hp) (φ' : List Addr) : Prop where
  pre : φ <+: φ'
  keep : ∀ a o, H a = some o → a ∉ φ → H' a = some o
  new : ∀ a, a ∈ φ' → a ∈ φ ∨ H a = none
theorem Ext.refl (H : Hp) (φ : List Addr) : Ext H φ H φ := ⟨List.prefix_refl _, fun _ _ h _ => h, fun _ h => .inl h⟩
theorem Ext.trans {H H1 H2 : Hp} {φ φ1 φ2 : List Addr} (a : Ext H φ H1 φ1) (b : Ext H1 φ1 H2 φ2) : Ext H φ H2 φ2 where
  pre := a.pre.trans b.pre
  keep := fun c o h hn => b.keep c o (a.keep c o h hn) fun z => (a.new c z).elim hn fun q => by rw [h] at q; cases q
  new := fun c hc => by
    rcases b.new c hc with z | z
    · exact a.new c z
    · by_cases hn : c ∈ φ
      · exact .inl hn
      · refine .inr ?_
        cases q : H c with
        | none => rfl
        | some o => rw [a.keep c o q hn] at z; cases z
theorem Ext.get {H H1 : Hp} {φ φ1 : List Addr} (e : Ext H φ H1 φ1) {n : Nat} {a : Addr} (h : φ[n]? = some a) : φ1[n]? = some a := by
  obtain ⟨t, rfl⟩ := e.pre
  rw [List.getElem?_append_left (List.getElem?_eq_some_iff.mp h).1]
  exact h

/-- the places hold lists, dicts, instances alone -/
def plain : HO → Bool
  | .lst _ | .ins _ _ _ | .dK _ | .dT _ | .frz _ (.dK _) | .frz _ (.dT _) => false
  | _ => true
theorem ORep.there {g : Gd} {H : Hp} {φ : List Addr} {a : Addr} {o : LO} (h : ORep g H φ a o) : ∃ u, H a = some u ∧ plain u = false := by
  cases o with
  | lst ws => obtain ⟨xs, e, _⟩ := h; exact ⟨_, e, rfl⟩
  | ins c ns ws => obtain ⟨C, dx, xs, _, _, e, _⟩ := h; exact ⟨_, e, rfl⟩
  | dic kvs =>
    rcases h with ⟨ks, xs, _, _, e, _⟩ | ⟨ks, xs, _, _, e, _⟩
    · exact ⟨_, e, rfl⟩
    · exact ⟨_, e, rfl⟩
  | dicL kvs =>
    obtain ⟨o, ⟨ks, xs, _, _, e, _⟩ | ⟨ks, xs, _, _, e, _⟩⟩ := h
    · exact ⟨_, e, rfl⟩
    · exact ⟨_, e, rfl⟩
theorem SRep.some_ {g : Gd} {H : Hp} {φ : List Addr} {S : Store} (s : SRep g H φ S) {a : Addr} (h : a ∈ φ) : ∃ (i : Nat) (o : LO), φ[i]? = some a ∧ S[i]? = some o := by
  obtain ⟨i, hi, e⟩ := List.getElem_of_mem h
  refine ⟨i, S[i]'(by rw [← s.len]; exact hi), by rw [List.getElem?_eq_getElem hi, e], List.getElem?_eq_getElem _⟩
theorem SRep.notin {g : Gd} {H : Hp} {φ : List Addr} {S : Store} (s : SRep g H φ S) {a : Addr} {u : HO} (h : H a = some u) (p : plain u = true) : a ∉ φ := fun z => by
  obtain ⟨i, o, e1, e2⟩ := s.some_ z
  obtain ⟨u', h', p'⟩ := (s.at_ i a o e1 e2).there
  rw [h] at h'; cases h'
  rw [p] at p'; cases p'
section
variable {g : Gd} {H H1 : Hp} {φ φ1 : List Addr} {S : Store}
theorem sqT_mono {a : Addr} {xs : List V} (s : SRep g H φ S) (e : Ext H φ H1 φ1) (h : SqT g.K H a xs) : SqT g.K H1 a xs := by
  rcases h with (h | ⟨o, h⟩) | h
  · exact .inl (.inl (e.keep _ _ h (s.notin h rfl)))
  · exact .inl (.inr ⟨o, e.keep _ _ h (s.notin h rfl)⟩)
  · exact .inr h
theorem roL_mono {a : Addr} {xs : List V} (s : SRep g H φ S) (e : Ext H φ H1 φ1) (h : RoL g.K H a xs) : RoL g.K H1 a xs := by
  rcases h with ⟨o, h⟩ | h
  · exact .inl ⟨o, e.keep _ _ h (s.notin h rfl)⟩
  · exact .inr h
mutual
theorem Rep.mono (s : SRep g H φ S) (e : Ext H φ H1 φ1) : ∀ (w : W) (v : V), Rep g H φ w v → Rep g H1 φ1 w v
  | .non, _, h => by simpa only [Rep] using h
  | .bl b, _, h => by simpa only [Rep] using h
  | .int i, _, h => by simpa only [Rep] using h
  | .str x, _, h => by simpa only [Rep] using h
  | .tup ws, v, h => by
    simp only [Rep] at h ⊢
    obtain ⟨a, xs, h1, h2, h3⟩ := h
    exact ⟨a, xs, h1, sqT_mono s e h2, Reps.mono s e ws xs h3⟩
  | .loc n, v, h => by
    simp only [Rep] at h ⊢
    obtain ⟨a, h1, h2⟩ := h
    exact ⟨a, e.get h1, h2⟩
  | .rol ws, v, h => by
    simp only [Rep] at h ⊢
    obtain ⟨a, xs, h1, h2, h3⟩ := h
    exact ⟨a, xs, h1, roL_mono s e h2, Reps.mono s e ws xs h3⟩
  | .exn c ns ws, v, h => by simp only [Rep] at h
theorem Reps.mono (s : SRep g H φ S) (e : Ext H φ H1 φ1) : ∀ (ws : List W) (xs : List V), Reps g H φ ws xs → Reps g H1 φ1 ws xs
  | [], _, h => by simpa only [Reps] using h
  | w :: ws, xs, h => by
    simp only [Reps] at h ⊢
    obtain ⟨x, r, h1, h2, h3⟩ := h
    exact ⟨x, r, h1, Rep.mono s e w x h2, Reps.mono s e ws r h3⟩
end
theorem TRep.mono (s : SRep g H φ S) (e : Ext H φ H1 φ1) {t : T} {v : V} (h : TRep g H φ t v) : TRep g H1 φ1 t v := by
  cases t with
  | w x => exact Rep.mono s e x v h
  | l ws =>
    obtain ⟨a, xs, h1, h2, h3, h4⟩ := h
    refine ⟨a, xs, h1, ?_, e.keep _ _ h3 h2, Reps.mono s e ws xs h4⟩
    exact fun z => (e.new a z).elim h2 fun q => by rw [h3] at q; cases q
theorem XRep.mono (s : SRep g H φ S) (e : Ext H φ H1 φ1) {d : Option Addr} {ns : List Str} {ws : List W} (h : XRep g H φ d ns ws) : XRep g H1 φ1 d ns ws := by
  rcases h with h6 | ⟨dd, fs, xs, q1, q2, q3, q4⟩
  · exact .inl h6
  · exact .inr ⟨dd, fs, xs, q1, e.keep _ _ q2 (s.notin q2 rfl), Reps.mono s e ws xs q3, q4⟩
end

/-- more places, the same heap -/
theorem getp {φ φ1 : List Addr} (e : φ <+: φ1) {n : Nat} {a : Addr} (h : φ[n]? = some a) : φ1[n]? = some a := by
  obtain ⟨t, rfl⟩ := e
  rw [List.getElem?_append_left (List.getElem?_eq_some_iff.mp h).1]
  exact h
mutual
theorem Rep.mono' {g : Gd} {H : Hp} {φ φ1 : List Addr} (e : φ <+: φ1) : ∀ (w : W) (v : V), Rep g H φ w v → Rep g H φ1 w v
  | .non, _, h => by simpa only [Rep] using h
  | .bl b, _, h => by simpa only [Rep] using h
  | .int i, _, h => by simpa only [Rep] using h
  | .str x, _, h => by simpa only [Rep] using h
  | .tup ws, v, h => by
    simp only [Rep] at h ⊢
    obtain ⟨a, xs, h1, h2, h3⟩ := h
    exact ⟨a, xs, h1, h2, Reps.mono' e ws xs h3⟩
  | .loc n, v, h => by
    simp only [Rep] at h ⊢
    obtain ⟨a, h1, h2⟩ := h
    exact ⟨a, getp e h1, h2⟩
  | .rol ws, v, h => by
    simp only [Rep] at h ⊢
    obtain ⟨a, xs, h1, h2, h3⟩ := h
    exact ⟨a, xs, h1, h2, Reps.mono' e ws xs h3⟩
  | .exn c ns ws, v, h => by simp only [Rep] at h
theorem Reps.mono' {g : Gd} {H : Hp} {φ φ1 : List Addr} (e : φ <+: φ1) : ∀ (ws : List W) (xs : List V), Reps g H φ ws xs → Reps g H φ1 ws xs
  | [], _, h => by simpa only [Reps] using h
  | w :: ws, xs, h => by
    simp only [Reps] at h ⊢
    obtain ⟨x, r, h1, h2, h3⟩ := h
    exact ⟨x, r, h1, Rep.mono' e w x h2, Reps.mono' e ws r h3⟩
end
/-- one object's telling, the values told anew -/
theorem ORep.mono' {g : Gd} {H : Hp} {φ φ1 : List Addr} {a : Addr} {o : LO} (u : ∀ ws vs, Reps g H φ ws vs → Reps g H φ1 ws vs) (h : ORep g H φ a o) : ORep g H φ1 a o := by
  cases o with
  | lst ws => obtain ⟨xs, e, r⟩ := h; exact ⟨xs, e, u _ _ r⟩
  | ins c ns ws => obtain ⟨C, dx, xs, h1, h2, h3, h4⟩ := h; exact ⟨C, dx, xs, h1, h2, h3, u _ _ h4⟩
  | dic kvs =>
    rcases h with ⟨ks, xs, h1, h2, h3, h4⟩ | ⟨ks, xs, h1, h2, h3, h4⟩
    · exact .inl ⟨ks, xs, h1, h2, h3, u _ _ h4⟩
    · exact .inr ⟨ks, xs, h1, h2, h3, u _ _ h4⟩
  | dicL kvs =>
    obtain ⟨o, ⟨ks, xs, h1, h2, h3, h4⟩ | ⟨ks, xs, h1, h2, h3, h4⟩⟩ := h
    · exact ⟨o, .inl ⟨ks, xs, h1, h2, h3, u _ _ h4⟩⟩
    · exact ⟨o, .inr ⟨ks, xs, h1, h2, h3, u _ _ h4⟩⟩
/-- .. where the object's own place is as it was -/
theorem ORep.mono {g : Gd} {H H1 : Hp} {φ φ1 : List Addr} {S : Store} {a : Addr} {o : LO} (s : SRep g H φ S) (e : Ext H φ H1 φ1) (ha : H1 a = H a) (h : ORep g H φ a o) : ORep g H1 φ1 a o := by
  cases o with
  | lst ws => obtain ⟨xs, q, r⟩ := h; exact ⟨xs, ha.trans q, Reps.mono s e _ _ r⟩
  | ins c ns ws => obtain ⟨C, dx, xs, h1, h2, h3, h4⟩ := h; exact ⟨C, dx, xs, h1, h2, ha.trans h3, Reps.mono s e _ _ h4⟩
  | dic kvs =>
    rcases h with ⟨ks, xs, h1, h2, h3, h4⟩ | ⟨ks, xs, h1, h2, h3, h4⟩
    · exact .inl ⟨ks, xs, h1, h2, ha.trans h3, Reps.mono s e _ _ h4⟩
    · exact .inr ⟨ks, xs, h1, h2, ha.trans h3, Reps.mono s e _ _ h4⟩
  | dicL kvs =>
    obtain ⟨o, ⟨ks, xs, h1, h2, h3, h4⟩ | ⟨ks, xs, h1, h2, h3, h4⟩⟩ := h
    · exact ⟨o, .inl ⟨ks, xs, h1, h2, ha.trans h3, Reps.mono s e _ _ h4⟩⟩
    · exact ⟨o, .inr ⟨ks, xs, h1, h2, ha.trans h3, Reps.mono s e _ _ h4⟩⟩
section
variable {g : Gd} {H : Hp} {φ : List Addr} {S : Store}
/-- a new object beside the places -/
theorem SRep.free (s : SRep g H φ S) {p : Addr} (hp : H p = none) : p ∉ φ := fun z => by
  obtain ⟨i, o, e1, e2⟩ := s.some_ z
  obtain ⟨u, h, _⟩ := (s.at_ i p o e1 e2).there
  rw [hp] at h; cases h
theorem SRep.newE (s : SRep g H φ S) {p : Addr} (o : HO) (hp : H p = none) : Ext H φ (upd H p o) φ :=
  ⟨List.prefix_refl _, fun a u h _ => by rw [upd_ne (ne_of_none h hp)]; exact h, fun _ h => .inl h⟩
theorem SRep.newS (s : SRep g H φ S) {p : Addr} (o : HO) (hp : H p = none) : SRep g (upd H p o) φ S :=
  ⟨s.len, s.nd, fun i a u e1 e2 => ORep.mono s (s.newE o hp) (upd_ne (fun z => s.free hp (z ▸ List.mem_of_getElem? e1))) (s.at_ i a u e1 e2)⟩
/-- a place written -/
theorem SRep.putE (s : SRep g H φ S) {n : Nat} {a : Addr} (ha : φ[n]? = some a) (o : HO) : Ext H φ (upd H a o) φ :=
  ⟨List.prefix_refl _, fun b u h hn => by
    have nb : b ≠ a := fun z => by subst z; exact hn (List.mem_of_getElem? ha)
    rw [upd_ne nb]; exact h, fun _ h => .inl h⟩
theorem SRep.putS (s : SRep g H φ S) {n : Nat} {a : Addr} (ha : φ[n]? = some a) {o : HO} {u : LO} (h : ORep g (upd H a o) φ a u) : SRep g (upd H a o) φ (S.set n u) := by
  refine ⟨by simp [s.len], s.nd, fun i b v e1 e2 => ?_⟩
  by_cases e : n = i
  · subst e
    rw [ha] at e1; cases e1
    have hlt : n < S.length := by rw [← s.len]; exact (List.getElem?_eq_some_iff.mp ha).1
    rw [List.getElem?_set_self hlt] at e2
    cases e2
    exact h
  · rw [List.getElem?_set_ne e] at e2
    have nb : b ≠ a := fun z => e (by
      subst z
      obtain ⟨h1, q1⟩ := List.getElem?_eq_some_iff.mp ha
      obtain ⟨h2, q2⟩ := List.getElem?_eq_some_iff.mp e1
      exact (List.getElem_inj s.nd).mp (q1.trans q2.symm))
    exact ORep.mono s (s.putE ha o) (upd_ne nb) (s.at_ i b v e1 e2)
end

/-- a slot's value: perhaps the exception that is handled -/
def SlRep (g : Gd) (H : Hp) (φ : List Addr) : W → V → Prop
  | .exn c ns ws, v => ∃ a oe C d, v = .ref a ∧ g.hp = some (a, oe) ∧ g.mg c = some (.ref C) ∧ L2N.Zn (.ref C) d oe ∧ (∃ vs, oe.data = .fields vs) ∧ XRep g H φ d ns ws
  | w, v => Rep g H φ w v
theorem Rep.sl {g : Gd} {H : Hp} {φ : List Addr} {w : W} {v : V} (h : Rep g H φ w v) : SlRep g H φ w v := by
  cases w with
  | exn c ns ws => simp only [Rep] at h
  | _ => exact h
theorem SlRep.mono {g : Gd} {H H1 : Hp} {φ φ1 : List Addr} {S : Store} (s : SRep g H φ S) (e : Ext H φ H1 φ1) {w : W} {v : V} (h : SlRep g H φ w v) : SlRep g H1 φ1 w v := by
  cases w with
  | exn c ns ws =>
    obtain ⟨a, oe, C, d, h1, h2, h3, h4, h5, h6⟩ := h
    exact ⟨a, oe, C, d, h1, h2, h3, h4, h5, h6.mono s e⟩
  | _ => exact Rep.mono s e _ v h
/-- slots -/
structure ERep (g : Gd) (H : Hp) (φ : List Addr) (ρ : Rho) (σ : St) : Prop where
  len : σ.length = ρ.length
  at_ : ∀ (i : Nat) (w : W), ρ[i]? = some (some w) → ∃ v, σ[i]? = some (some v) ∧ SlRep g H φ w v
theorem ERep.mono {g : Gd} {H H1 : Hp} {φ φ1 : List Addr} {S : Store} {ρ : Rho} {σ : St} (h : ERep g H φ ρ σ) (s : SRep g H φ S) (e : Ext H φ H1 φ1) : ERep g H1 φ1 ρ σ :=
  ⟨h.len, fun i w q => let ⟨v, a, b⟩ := h.at_ i w q; ⟨v, a, b.mono s e⟩⟩
theorem ERep.set {g : Gd} {H : Hp} {φ : List Addr} {ρ : Rho} {σ : St} (h : ERep g H φ ρ σ) {w : W} {v : V} (r : SlRep g H φ w v) (i : Nat) : ERep g H φ (ρ.set i (some w)) (σ.set i (some v)) := by
  refine ⟨by simp [h.len], fun j u q => ?_⟩
  by_cases e : i = j
  · subst e
    rw [List.getElem?_set] at q
    split at q
    · split at q
      · rename_i hlt
        cases q
        exact ⟨v, by rw [List.getElem?_set_self (by rw [h.len]; exact hlt)], r⟩
      · cases q
    · rename_i z; exact absurd rfl z
  · rw [List.getElem?_set_ne e] at q ⊢
    exact h.at_ j u q

abbrev gd (X : Cx) : Gd := ⟨X.K, X.mg, if X.calm = true then none else X.pn.head?⟩

/-- a list that nobody else knows is new since the base -/
def TRepF (g : Gd) (H0 : Hp) (H : Hp) (φ : List Addr) (t : T) (v : V) : Prop :=
  TRep g H φ t v ∧ match t with
    | .l _ => ∀ a, v = .ref a → H0 a = none
    | .w _ => True
abbrev RepT (α β : Type) := Hp → Hp → List Addr → α → β → Prop
/-- what must hold behind a run, told by rep (its first heap: where the run began) -/
def PostG {α β : Type} (rep : RepT α β) (g : Gd) (Z : WX) (σ : St) (H : Hp) (φ : List Addr) : R α → (β → Hp → Prop) → Prop
  | .ok t S', Q => ∀ v H' φ', Ext H φ H' φ' → SRep g H' φ' S' → rep H H' φ' t v → Q v H'
  | .exc c ns ws S', _ => ∀ C d H' φ', Ext H φ H' φ' → SRep g H' φ' S' → g.mg c = some (.ref C) → XRep g H' φ' d ns ws → Z (.ref C) d σ H'
  | .no, _ => False
abbrev repE (g : Gd) : RepT T V := fun H0 H φ t v => TRepF g H0 H φ t v
abbrev repA (g : Gd) : RepT (List W) (List V) := fun _ H φ t v => Reps g H φ t v
abbrev repT : RepT Bool Bool := fun _ _ _ a b => a = b
abbrev repV (g : Gd) : RepT W V := fun _ H φ t v => Rep g H φ t v
/-- from an earlier base -/
class Anti {α β : Type} (rep : RepT α β) : Prop where
  anti : ∀ {H H1 H' : Hp} {φ φ1 φ' : List Addr} {t : α} {v : β}, Ext H φ H1 φ1 → Ext H1 φ1 H' φ' → rep H1 H' φ' t v → rep H H' φ' t v
theorem TRepF.anti {g : Gd} {H H1 H' : Hp} {φ φ1 φ' : List Addr} {t : T} {v : V} (e : Ext H φ H1 φ1) (e1 : Ext H1 φ1 H' φ') (h : TRepF g H1 H' φ' t v) : TRepF g H H' φ' t v := by
  cases t with
  | w x => exact h
  | l ws =>
    obtain ⟨⟨a, xs, h1, h2, h3, h4⟩, h5⟩ := h
    refine ⟨⟨a, xs, h1, h2, h3, h4⟩, fun b hb => ?_⟩
    have h6 := h5 b hb
    have eb : b = a := by rw [h1] at hb; exact (V.ref.inj hb).symm
    subst eb
    have nb : b ∉ φ := fun z => h2 ((e.trans e1).pre.subset z)
    cases q : H b with
    | none => rfl
    | some o => rw [e.keep b o q nb] at h6; cases h6
instance {g : Gd} : Anti (repE g) := ⟨TRepF.anti⟩
instance {g : Gd} : Anti (repA g) := ⟨fun _ _ h => h⟩
instance {g : Gd} : Anti (repV g) := ⟨fun _ _ h => h⟩
instance : Anti repT := ⟨fun _ _ h => h⟩
section
variable {α β γ δ : Type} {rep : RepT α β} {rep' : RepT γ δ} {g : Gd} {Z : WX} {σ : St} {H : Hp} {φ : List Addr}
theorem PostG.mono {r : R α} {Q Q' : β → Hp → Prop} (h : PostG rep g Z σ H φ r Q) (m : ∀ v H', Q v H' → Q' v H') : PostG rep g Z σ H φ r Q' := by
  cases r with
  | ok t S => exact fun v H' φ' e s r => m _ _ (h v H' φ' e s r)
  | exc c ns ws S => exact h
  | no => exact h
theorem PostG.later [Anti rep] {H1 : Hp} {φ1 : List Addr} {r : R α} {Q : β → Hp → Prop} (h : PostG rep g Z σ H φ r Q) (e : Ext H φ H1 φ1) : PostG rep g Z σ H1 φ1 r Q := by
  cases r with
  | ok t S => exact fun v H' φ' e1 s r => h v H' φ' (e.trans e1) s (Anti.anti e e1 r)
  | exc c ns ws S => exact fun C d H' φ' e1 s m x => h C d H' φ' (e.trans e1) s m x
  | no => exact h
theorem PostG.bind [Anti rep'] {r : R α} {k : α → Store → R γ} {Q : δ → Hp → Prop} (h : PostG rep' g Z σ H φ (r.bind k) Q) :
    PostG rep g Z σ H φ r fun v H1 => ∃ t S1 φ1, Ext H φ H1 φ1 ∧ SRep g H1 φ1 S1 ∧ rep H H1 φ1 t v ∧ PostG rep' g Z σ H1 φ1 (k t S1) Q := by
  cases r with
  | ok t S => exact fun v H' φ' e s r => ⟨t, S, φ', e, s, r, PostG.later (r := k t S) h e⟩
  | exc c ns ws S => exact h
  | no => exact h
theorem PostG.now {t : α} {S : Store} {v : β} {Q : β → Hp → Prop} (h : PostG rep g Z σ H φ (.ok t S) Q) (s : SRep g H φ S) (r : rep H H φ t v) : Q v H := h v H φ (.refl _ _) s r
theorem PostG.at_ {t : α} {S : Store} {v : β} {H1 : Hp} {φ1 : List Addr} {Q : β → Hp → Prop} (h : PostG rep g Z σ H φ (.ok t S) Q) (e : Ext H φ H1 φ1) (s : SRep g H1 φ1 S) (r : rep H H1 φ1 t v) : Q v H1 := h v H1 φ1 e s r
theorem settle_ok {t : T} {v : V} {S : Store} {H' : Hp} {φ' : List Addr} (e : Ext H φ H' φ') (s : SRep g H' φ' S) (r : TRepF g H H' φ' t v) : ∃ x S2 φ2, Ev.settle t S = .ok x S2 ∧ φ' <+: φ2 ∧ Ext H φ H' φ2 ∧ SRep g H' φ2 S2 ∧ Rep g H' φ2 x v := by
  cases t with
  | w x => exact ⟨x, S, φ', rfl, List.prefix_refl _, e, s, r.1⟩
  | l ws =>
    obtain ⟨⟨a, xs, rfl, h2, h3, h4⟩, h5⟩ := r
    have h5 := h5 a rfl
    have e' : Ext H φ H' (φ' ++ [a]) := ⟨e.pre.trans (List.prefix_append _ _), e.keep, fun b hb => by
      rcases List.mem_append.mp hb with z | z
      · exact e.new b z
      · simp only [List.mem_singleton] at z
        subst z
        exact .inr h5⟩
    -- the store with the new place; here no address moves
    have up : ∀ (w : W) (v : V), Rep g H' φ' w v → Rep g H' (φ' ++ [a]) w v := fun w v q => Rep.mono' (List.prefix_append _ _) w v q
    have ups : ∀ (ws : List W) (vs : List V), Reps g H' φ' ws vs → Reps g H' (φ' ++ [a]) ws vs := fun w v q => Reps.mono' (List.prefix_append _ _) w v q
    have s' : SRep g H' (φ' ++ [a]) (S ++ [.lst ws]) := by
      refine ⟨by simp [s.len], List.nodup_append.mpr ⟨s.nd, by simp, fun b hb c hc => by simp only [List.mem_singleton] at hc; subst hc; exact fun z => h2 (z ▸ hb)⟩, fun i b o q1 q2 => ?_⟩
      by_cases hi : i < φ'.length
      · rw [List.getElem?_append_left hi] at q1
        rw [List.getElem?_append_left (by rw [← s.len]; exact hi)] at q2
        exact ORep.mono' ups (s.at_ i b o q1 q2)
      · rw [List.getElem?_append_right (by omega)] at q1
        rw [List.getElem?_append_right (by rw [← s.len]; omega)] at q2
        have hi2 : i - φ'.length = 0 := by
          have := (List.getElem?_eq_some_iff.mp q1).1
          simp at this; omega
        rw [hi2] at q1
        rw [show i - S.length = 0 by rw [← s.len]; exact hi2] at q2
        simp only [List.getElem?_cons_zero, Option.some.injEq] at q1 q2
        subst q1; subst q2
        exact ⟨xs, h3, ups _ _ h4⟩
    refine ⟨.loc S.length, S ++ [.lst ws], φ' ++ [a], rfl, List.prefix_append _ _, e', s', ?_⟩
    show Rep g H' (φ' ++ [a]) (.loc S.length) (.ref a)
    simp only [Rep]
    exact ⟨a, by rw [← s.len]; simp, rfl⟩
/-- an expression whose value is stored, handed on: it becomes a place -/
theorem PostG.settle [Anti rep'] {r : R T} {k : W → Store → R γ} {Q : δ → Hp → Prop} (h : PostG rep' g Z σ H φ (r.bind fun t S1 => (settle t S1).bind k) Q) :
    PostG (repE g) g Z σ H φ r fun v H1 => ∃ x S1 φ1, Ext H φ H1 φ1 ∧ SRep g H1 φ1 S1 ∧ Rep g H1 φ1 x v ∧ PostG rep' g Z σ H1 φ1 (k x S1) Q := by
  cases r with
  | exc c ns ws S => exact h
  | no => exact h
  | ok t S =>
    intro v H' φ' e s r
    obtain ⟨x, S2, φ2, e1, _, e2, s2, r2⟩ := settle_ok e s r
    have h : PostG rep' g Z σ H φ ((Ev.settle t S).bind k) Q := h
    rw [e1] at h
    exact ⟨x, S2, φ2, e2, s2, r2, PostG.later (r := k x S2) h e2⟩
end
/-- the reading by a combinator -/
def lift {α β : Type} (rep : RepT α β) (g : Gd) (Z : WX) (m : Rho → Store → R α) : St → Hp → (β → Hp → Prop) → Prop := fun σ H Q =>
  ∃ φ S ρ, SRep g H φ S ∧ ERep g H φ ρ σ ∧ PostG rep g Z σ H φ (m ρ S) Q

abbrev lE (X : Cx) (Z : WX) (m : ME) : TE := lift (repE (gd X)) (gd X) Z m
abbrev lT (X : Cx) (Z : WX) (m : MT) : TT := lift repT (gd X) Z m
abbrev lA (X : Cx) (Z : WX) (m : MA) : TA := lift (repA (gd X)) (gd X) Z m
abbrev SE (X : Cx) (Z : WX) (e : Expr) (m : ME) : Prop := PE X e (lE X Z m)
abbrev ST (X : Cx) (Z : WX) (e : Expr) (m : MT) : Prop := PT X e (lT X Z m)
abbrev SW (X : Cx) (Z : WX) (e : Expr) (m : MT) : Prop := PW X e (lT X Z m)
abbrev SA (X : Cx) (Z : WX) (es : List Expr) (m : MA) : Prop := PA X es (lA X Z m)
/-- statements -/
def PostS (g : Gd) (Z : WX) (H : Hp) (φ : List Addr) : RS → Ends → Prop
  | .next ρ S, D => ∀ σ H' φ', Ext H φ H' φ' → SRep g H' φ' S → ERep g H' φ' ρ σ → D.nx σ H'
  | .ret t S, D => ∀ v H' φ', Ext H φ H' φ' → SRep g H' φ' S → TRepF g H H' φ' t v → D.rt v H'
  | .brk ρ S, D => ∀ σ H' φ', Ext H φ H' φ' → SRep g H' φ' S → ERep g H' φ' ρ σ → D.bk σ H'
  | .cnt ρ S, D => ∀ σ H' φ', Ext H φ H' φ' → SRep g H' φ' S → ERep g H' φ' ρ σ → D.ct σ H'
  | .exc c ns ws ρ S, _ => ∀ C d σ H' φ', Ext H φ H' φ' → SRep g H' φ' S → ERep g H' φ' ρ σ → g.mg c = some (.ref C) → XRep g H' φ' d ns ws → Z (.ref C) d σ H'
  | .no, _ => False
theorem PostS.later {g : Gd} {Z : WX} {H H1 : Hp} {φ φ1 : List Addr} {r : RS} {D : Ends} (h : PostS g Z H φ r D) (e : Ext H φ H1 φ1) : PostS g Z H1 φ1 r D := by
  cases r with
  | next ρ S => exact fun σ H' φ' e1 s r => h σ H' φ' (e.trans e1) s r
  | ret t S => exact fun v H' φ' e1 s r => h v H' φ' (e.trans e1) s (TRepF.anti e e1 r)
  | brk ρ S => exact fun σ H' φ' e1 s r => h σ H' φ' (e.trans e1) s r
  | cnt ρ S => exact fun σ H' φ' e1 s r => h σ H' φ' (e.trans e1) s r
  | exc c ns ws ρ S => exact fun C d σ H' φ' e1 s r m x => h C d σ H' φ' (e.trans e1) s r m x
  | no => exact h
def lS (X : Cx) (Z : WX) (m : MS) : TS := fun D σ H => ∃ φ S ρ, SRep (gd X) H φ S ∧ ERep (gd X) H φ ρ σ ∧ PostS (gd X) Z H φ (m ρ S) D
abbrev SS (X : Cx) (Z : WX) (st : Stmt) (m : MS) : Prop := PS X st (lS X Z m)
abbrev SSs (X : Cx) (Z : WX) (st : List Stmt) (m : MS) : Prop := PSs X st (lS X Z m)

theorem _root_.L2.PE.imp {X : Cx} {e : Expr} {t t' : TE} (h : PE X e t) (i : ∀ σ H Q, t' σ H Q → t σ H Q) : PE X e t' := ⟨fun pins s σ H Q I q => h.run pins s σ H Q I (i _ _ _ q)⟩
theorem _root_.L2.PT.imp {X : Cx} {e : Expr} {t t' : TT} (h : PT X e t) (i : ∀ σ H Q, t' σ H Q → t σ H Q) : PT X e t' := ⟨fun pins s σ H Q I q => h.run pins s σ H Q I (i _ _ _ q)⟩
theorem _root_.L2.PW.imp {X : Cx} {e : Expr} {t t' : TT} (h : PW X e t) (i : ∀ σ H Q, t' σ H Q → t σ H Q) : PW X e t' := ⟨fun wh pins s σ H Q I q => h.run wh pins s σ H Q I (i _ _ _ q)⟩
theorem _root_.L2.PA.imp {X : Cx} {e : List Expr} {t t' : TA} (h : PA X e t) (i : ∀ σ H Q, t' σ H Q → t σ H Q) : PA X e t' := ⟨fun pos pins s σ H Q I q => h.run pos pins s σ H Q I (i _ _ _ q)⟩
theorem _root_.L2.PS.imp {X : Cx} {e : Stmt} {t t' : TS} (h : PS X e t) (i : ∀ D σ H, t' D σ H → t D σ H) : PS X e t' := ⟨fun pins s σ H D I q => h.run pins s σ H D I (i _ _ _ q)⟩
theorem _root_.L2.PSs.imp {X : Cx} {e : List Stmt} {t t' : TS} (h : PSs X e t) (i : ∀ D σ H, t' D σ H → t D σ H) : PSs X e t' := ⟨fun pins s σ H D I q => h.run pins s σ H D I (i _ _ _ q)⟩

/-! ### two operands -/
section
variable {X : Cx} {Z : WX} {a b : Expr} {ma mb : ME} {pos : Pos}
/-- an operator's rule r serves the function f -/
def OpS (X : Cx) (f : T → T → Store → R T) (r : R2) : Prop :=
  ∀ (Z : WX) (t u : T) (x y : V) (S : Store) (σ : St) (H : Hp) (φ : List Addr) (Q : VK), SRep (gd X) H φ S → TRep (gd X) H φ t x → TRep (gd X) H φ u y → PostG (repE (gd X)) (gd X) Z σ H φ (f t u S) Q → r x y H Q
def UnS (X : Cx) (f : T → Store → R T) (r : V → Hp → VK → Prop) : Prop :=
  ∀ (Z : WX) (t : T) (x : V) (S : Store) (σ : St) (H : Hp) (φ : List Addr) (Q : VK), SRep (gd X) H φ S → TRep (gd X) H φ t x → PostG (repE (gd X)) (gd X) Z σ H φ (f t S) Q → r x H Q
theorem op2_imp {f : T → T → Store → R T} {r : R2} (hf : OpS X f r) {σ : St} {H : Hp} {Q : VK} (h : lE X Z (m_op2 f ma mb) σ H Q) : tOp r (lE X Z ma) (lE X Z mb) σ H Q := by
  obtain ⟨φ, S, ρ, s, e, p⟩ := h
  refine ⟨φ, S, ρ, s, e, (PostG.bind (rep := repE (gd X)) p).mono fun x H1 ⟨t, S1, φ1, e1, s1, r1, p1⟩ => ?_⟩
  refine ⟨φ1, S1, ρ, s1, e.mono s e1, (PostG.bind (rep := repE (gd X)) p1).mono fun y H2 ⟨u, S2, φ2, e2, s2, r2, p2⟩ => ?_⟩
  exact hf Z t u x y S2 σ H2 φ2 Q s2 (r1.1.mono s1 e2) r2.1 p2
theorem op1_imp {f : T → Store → R T} {r : V → Hp → VK → Prop} (hf : UnS X f r) {σ : St} {H : Hp} {Q : VK} (h : lE X Z (m_op1 f ma) σ H Q) : tUn r (lE X Z ma) σ H Q := by
  obtain ⟨φ, S, ρ, s, e, p⟩ := h
  refine ⟨φ, S, ρ, s, e, (PostG.bind (rep := repE (gd X)) p).mono fun x H1 ⟨t, S1, φ1, e1, s1, r1, p1⟩ => ?_⟩
  exact hf Z t x S1 σ H1 φ1 Q s1 r1.1 p1
theorem OpS.or_l {f : T → T → Store → R T} {r r' : R2} (h : OpS X f r) : OpS X f fun x y H Q => r x y H Q ∨ r' x y H Q := fun Z t u x y S σ H φ Q s a b p => .inl (h Z t u x y S σ H φ Q s a b p)
theorem se_bin {op : Operator} {f : T → T → Store → R T} {r : R2} (ho : OpR X (binaryOp op) r) (hf : OpS X f r) (ha : SE X Z a ma) (hb : SE X Z b mb) : SE X Z (.BinOp a op b pos) (m_op2 f ma mb) :=
  (pe_op ho ha hb).imp fun _ _ _ h => op2_imp hf h
theorem se_cmp {op : CmpOp} {f : T → T → Store → R T} {r : R2} (ho : OpR X (compareOp op) r) (hf : OpS X f r) (ha : SE X Z a ma) (hb : SE X Z b mb) (hm : behindInMarks op b = false) : SE X Z (.Compare a [op] [b] pos) (m_op2 f ma mb) :=
  (pe_cmpR ho ha hb hm).imp fun _ _ _ h => op2_imp hf h
theorem se_un {op : UnaryOp} {f : T → Store → R T} {r : V → Hp → VK → Prop} (ho : UnR X (unaryOp op) r) (hf : UnS X f r) (ha : SE X Z a ma) : SE X Z (.UnaryOp op a pos) (m_op1 f ma) :=
  (pe_un ho ha).imp fun _ _ _ h => op1_imp hf h
/-! ### names, constants -/
theorem se_var (i : Nat) {x : Str} {pos : Pos} (hN : X.N[i]? = some x := by rfl) (hv : Vis X.env.scope x := by first | exact Or.inl rfl | exact Or.inr (Or.inl rfl) | exact Or.inr (Or.inr rfl)) (hd : (x == ("__debug__" : Str)) = false := by decide)
    (hcd : (x == ("__classdict__" : Str)) = false := by decide) : SE X Z (.Name x pos) (m_var i) := by
  refine (pv i hN hv hd hcd).imp fun σ H Q h => ?_
  obtain ⟨φ, S, ρ, s, e, p⟩ := h
  unfold m_var at p
  cases q : ρ[i]? with
  | none => rw [q] at p; exact p.elim
  | some o =>
    cases o with
    | none => rw [q] at p; exact p.elim
    | some w =>
      rw [q] at p
      obtain ⟨v, h1, h2⟩ := e.at_ i w q
      cases w with
      | exn c ns ws => exact p.elim
      | _ => exact ⟨v, h1, p.now s ⟨h2, trivial⟩⟩
theorem se_k {w : W} {v : V} (h : PE X a (tC v)) (r : ∀ H φ, Rep (gd X) H φ w v) : SE X Z a (m_c w) := by
  refine h.imp fun σ H Q h => ?_
  obtain ⟨φ, S, ρ, s, e, p⟩ := h
  exact p.now s ⟨r H φ, trivial⟩
theorem se_int {i j} : SE X Z (.Constant (.int i) j pos) (m_c (.int i)) := se_k pe_int fun _ _ => by simp only [Rep]
theorem se_bl {i j} : SE X Z (.Constant (.bool i) j pos) (m_c (.bl i)) := se_k pe_bl fun _ _ => by simp only [Rep]
theorem se_non {j} : SE X Z (.Constant .none j pos) (m_c .non) := se_k pe_non fun _ _ => by simp only [Rep]
theorem se_str {x j} : SE X Z (.Constant (.str x) j pos) (m_c (.str x)) := se_k pe_str fun _ _ => by simp only [Rep]
theorem se_gint {x : Str} {i : Int} {t : Tok} (hg : Gl X x) (hm : X.mg x = some (.int i t)) (hd : (x == ("__debug__" : Str)) = false := by decide) : SE X Z (.Name x pos) (m_c (.int i)) := se_k (pe_glob (v := .int i) hg hm ⟨_, rfl⟩ hd) fun _ _ => by simp only [Rep]
theorem se_gstr {x : Str} {i : Str} {t : Tok} (hg : Gl X x) (hm : X.mg x = some (.str i t)) (hd : (x == ("__debug__" : Str)) = false := by decide) : SE X Z (.Name x pos) (m_c (.str i)) := se_k (pe_glob (v := .str i) hg hm ⟨_, rfl⟩ hd) fun _ _ => by simp only [Rep]
end
end Ev

set_option Elab.async false
set_option linter.all false
set_option maxRecDepth 100000
/-! Ev3: operators. -/
namespace Ev
open PySem PySem.Spec PyProof.Rows L2

/-! ### reading a value through the store -/
def lstOf (t : T) (S : Store) : Option (List W) := match t with
  | .l ws => some ws
  | .w (.loc n) => match S[n]? with
    | some (.lst ws) => some ws
    | _ => none
  | _ => none
def seqLOf (t : T) (S : Store) : Option (List W) := match t with
  | .w (.rol ws) => some ws
  | t => lstOf t S
def tupOf (t : T) : Option (List W) := match t with
  | .w (.tup ws) => some ws
  | _ => none
@[simp] theorem lstOf_l (ws : List W) (S : Store) : lstOf (.l ws) S = some ws := rfl
@[simp] theorem tupOf_tup (ws : List W) : tupOf (.w (.tup ws)) = some ws := rfl
section
variable {g : Gd} {H : Hp} {φ : List Addr} {S : Store} {t : T} {x : V} {ws : List W}
theorem SRep.lst (s : SRep g H φ S) {n : Nat} (h : S[n]? = some (.lst ws)) : ∃ a xs, φ[n]? = some a ∧ H a = some (.lst xs) ∧ Reps g H φ ws xs := by
  have hl : n < φ.length := by rw [s.len]; exact (List.getElem?_eq_some_iff.mp h).1
  obtain ⟨xs, h1, h2⟩ := s.at_ n _ _ (List.getElem?_eq_getElem hl) h
  exact ⟨_, xs, List.getElem?_eq_getElem hl, h1, h2⟩
theorem loc_rep {n : Nat} {a : Addr} (r : Rep g H φ (.loc n) x) (h : φ[n]? = some a) : x = .ref a := by
  simp only [Rep] at r
  obtain ⟨b, h1, h2⟩ := r
  rw [h] at h1; cases h1; exact h2
theorem lstOf_ok (s : SRep g H φ S) (r : TRep g H φ t x) (h : lstOf t S = some ws) : ∃ a xs, x = .ref a ∧ H a = some (.lst xs) ∧ Reps g H φ ws xs := by
  cases t with
  | l us =>
    cases h
    obtain ⟨a, xs, h1, _, h2, h3⟩ := r
    exact ⟨a, xs, h1, h2, h3⟩
  | w y =>
    cases y with
    | loc n =>
      simp only [lstOf] at h
      split at h
      · rename_i q
        cases h
        obtain ⟨a, xs, h1, h2, h3⟩ := s.lst q
        exact ⟨a, xs, loc_rep (g := g) (H := H) r h1, h2, h3⟩
      · cases h
    | _ => cases h
theorem seqLOf_ok (s : SRep g H φ S) (r : TRep g H φ t x) (h : seqLOf t S = some ws) : ∃ a xs, x = .ref a ∧ SqL g.K H a xs ∧ Reps g H φ ws xs := by
  by_cases e : ∃ us, t = .w (.rol us)
  · obtain ⟨us, rfl⟩ := e
    cases h
    simp only [TRep, Rep] at r
    obtain ⟨a, xs, h1, h2, h3⟩ := r
    exact ⟨a, xs, h1, h2.sq, h3⟩
  · have h' : lstOf t S = some ws := by
      rw [← h]
      cases t with
      | l us => rfl
      | w y =>
        cases y with
        | rol us => exact absurd ⟨us, rfl⟩ e
        | _ => rfl
    obtain ⟨a, xs, h1, h2, h3⟩ := lstOf_ok s r h'
    exact ⟨a, xs, h1, SqL.of h2, h3⟩
theorem tupOf_ok (r : TRep g H φ t x) (h : tupOf t = some ws) : ∃ a xs, x = .ref a ∧ SqT g.K H a xs ∧ Reps g H φ ws xs := by
  cases t with
  | l us => cases h
  | w y =>
    cases y with
    | tup us =>
      cases h
      simp only [TRep, Rep] at r
      exact r
    | _ => cases h
end
/-! ### lists of values -/
section
variable {g : Gd} {H : Hp} {φ : List Addr}
theorem Reps_iff : ∀ {ws : List W} {xs : List V}, Reps g H φ ws xs ↔ Paired (fun w x => Rep g H φ w x) ws xs
  | [], xs => by
    simp only [Reps]
    constructor
    · rintro rfl; exact .nil
    · intro h; cases h; rfl
  | w :: ws, xs => by
    simp only [Reps]
    constructor
    · rintro ⟨x, r, rfl, h1, h2⟩
      exact .cons h1 (Reps_iff.mp h2)
    · intro h
      cases h with
      | cons h1 h2 => exact ⟨_, _, rfl, h1, Reps_iff.mpr h2⟩
theorem Reps.length {ws : List W} {xs : List V} (h : Reps g H φ ws xs) : ws.length = xs.length := Paired.length (Reps_iff.mp h)
theorem Reps.append : ∀ {ws us : List W} {xs ys : List V}, Reps g H φ ws xs → Reps g H φ us ys → Reps g H φ (ws ++ us) (xs ++ ys)
  | [], us, xs, ys, h1, h2 => by
    simp only [Reps] at h1
    subst h1
    exact h2
  | w :: ws, us, xs, ys, h1, h2 => by
    simp only [Reps] at h1
    obtain ⟨x, r, rfl, q1, q2⟩ := h1
    show Reps g H φ (w :: (ws ++ us)) (x :: (r ++ ys))
    simp only [Reps]
    exact ⟨x, r ++ ys, rfl, q1, Reps.append q2 h2⟩
theorem Reps.nil : Reps g H φ [] [] := by simp only [Reps]
theorem Reps.cons {w : W} {x : V} {ws : List W} {xs : List V} (h : Rep g H φ w x) (r : Reps g H φ ws xs) : Reps g H φ (w :: ws) (x :: xs) := by
  simp only [Reps]
  exact ⟨x, xs, rfl, h, r⟩
theorem Reps.one {w : W} {x : V} (h : Rep g H φ w x) : Reps g H φ [w] [x] := .cons h .nil
theorem Reps.get : ∀ {ws : List W} {xs : List V} {i : Nat} {w : W}, Reps g H φ ws xs → ws[i]? = some w → ∃ x, xs[i]? = some x ∧ Rep g H φ w x
  | [], _, _, _, _, h => by simp at h
  | w :: ws, xs, i, u, r, h => by
    simp only [Reps] at r
    obtain ⟨x, r, rfl, q1, q2⟩ := r
    cases i with
    | zero => simp at h; subst h; exact ⟨x, rfl, q1⟩
    | succ i =>
      obtain ⟨y, e, q⟩ := Reps.get (i := i) q2 (by simpa using h)
      exact ⟨y, by simpa using e, q⟩
theorem Reps.take : ∀ {ws : List W} {xs : List V} (n : Nat), Reps g H φ ws xs → Reps g H φ (ws.take n) (xs.take n)
  | [], xs, n, h => by simp only [Reps] at h; subst h; simpa using Reps.nil
  | w :: ws, xs, 0, h => by simpa using Reps.nil
  | w :: ws, xs, n + 1, h => by
    simp only [Reps] at h
    obtain ⟨x, r, rfl, q1, q2⟩ := h
    exact Reps.cons q1 (Reps.take n q2)
theorem Reps.drop : ∀ {ws : List W} {xs : List V} (n : Nat), Reps g H φ ws xs → Reps g H φ (ws.drop n) (xs.drop n)
  | [], xs, n, h => by simp only [Reps] at h; subst h; simpa using Reps.nil
  | w :: ws, xs, 0, h => h
  | w :: ws, xs, n + 1, h => by
    simp only [Reps] at h
    obtain ⟨x, r, rfl, q1, q2⟩ := h
    exact Reps.drop n q2
theorem Reps.set {w : W} {x : V} (h0 : Rep g H φ w x) : ∀ {ws : List W} {xs : List V} (i : Nat), Reps g H φ ws xs → Reps g H φ (ws.set i w) (xs.set i x)
  | [], xs, n, h => by simp only [Reps] at h; subst h; simpa using Reps.nil
  | u :: ws, xs, 0, h => by
    simp only [Reps] at h
    obtain ⟨y, r, rfl, q1, q2⟩ := h
    exact Reps.cons h0 q2
  | u :: ws, xs, n + 1, h => by
    simp only [Reps] at h
    obtain ⟨y, r, rfl, q1, q2⟩ := h
    exact Reps.cons q1 (Reps.set h0 n q2)
end
/-! ### pure data -/
mutual
def W.dat : W → Option PyData
  | .non => some .none
  | .bl b => some (.bool b)
  | .int i => some (.int i)
  | .str x => some (.str x)
  | .tup ws => (W.dats ws).map .tuple
  | .rol ws => (W.dats ws).map .list
  | _ => none
def W.dats : List W → Option (List PyData)
  | [] => some []
  | w :: ws => match W.dat w, W.dats ws with
    | some d, some ds => some (d :: ds)
    | _, _ => none
end
def T.dat (t : T) (S : Store) : Option PyData :=
  match lstOf t S with
  | some ws => (W.dats ws).map .list
  | none => match t with
    | .w x => x.dat
    | .l _ => none
section
variable {g : Gd} {H : Hp} {φ : List Addr}
mutual
theorem W.dp : ∀ (w : W) (v : V) (d : PyData), Rep g H φ w v → w.dat = some d → Dp g.K H v d
  | .non, _, _, r, h => by
    simp only [Rep] at r; simp only [W.dat, Option.some.injEq] at h; subst r; subst h; exact .non
  | .bl b, _, _, r, h => by
    simp only [Rep] at r; simp only [W.dat, Option.some.injEq] at h; subst r; subst h; exact .bl b
  | .int b, _, _, r, h => by
    simp only [Rep] at r; simp only [W.dat, Option.some.injEq] at h; subst r; subst h; exact .int b
  | .str b, _, _, r, h => by
    simp only [Rep] at r; simp only [W.dat, Option.some.injEq] at h; subst r; subst h; exact .str b
  | .tup ws, _, _, r, h => by
    simp only [Rep] at r
    obtain ⟨a, xs, rfl, h1, h2⟩ := r
    simp only [W.dat, Option.map_eq_some_iff] at h
    obtain ⟨ds, e, rfl⟩ := h
    exact .tup h1 (W.dps ws xs ds h2 e)
  | .rol ws, _, _, r, h => by
    simp only [Rep] at r
    obtain ⟨a, xs, rfl, h1, h2⟩ := r
    simp only [W.dat, Option.map_eq_some_iff] at h
    obtain ⟨ds, e, rfl⟩ := h
    exact .lst h1.sq (W.dps ws xs ds h2 e)
  | .loc _, _, _, _, h => by simp only [W.dat] at h; cases h
  | .exn _ _ _, _, _, r, _ => by simp only [Rep] at r
theorem W.dps : ∀ (ws : List W) (vs : List V) (ds : List PyData), Reps g H φ ws vs → W.dats ws = some ds → DpAll g.K H vs ds
  | [], _, _, r, h => by
    simp only [Reps] at r; simp only [W.dats, Option.some.injEq] at h; subst r; subst h; exact .nil
  | w :: ws, _, _, r, h => by
    simp only [Reps] at r
    obtain ⟨x, xs, rfl, h1, h2⟩ := r
    simp only [W.dats] at h
    split at h
    · rename_i d ds e1 e2
      cases h
      exact .cons (W.dp w x d h1 e1) (W.dps ws xs ds h2 e2)
    · cases h
end
theorem T.dp {S : Store} {t : T} {v : V} {d : PyData} (s : SRep g H φ S) (r : TRep g H φ t v) (h : t.dat S = some d) : Dp g.K H v d := by
  unfold T.dat at h
  split at h
  · rename_i ws q
    obtain ⟨a, xs, rfl, h1, h2⟩ := lstOf_ok s r q
    simp only [Option.map_eq_some_iff] at h
    obtain ⟨ds, e, rfl⟩ := h
    exact .lst (SqL.of h1) (W.dps ws xs ds h2 e)
  · cases t with
    | l us => cases h
    | w x => exact W.dp x v d r h
end

/-! ### results -/
section
variable {X : Cx} {Z : WX} {σ : St} {H : Hp} {φ : List Addr} {S : Store} {Q : VK}
abbrev PE' (X : Cx) (Z : WX) (σ : St) (H : Hp) (φ : List Addr) (r : R T) (Q : VK) : Prop := PostG (repE (gd X)) (gd X) Z σ H φ r Q
theorem fin {w : W} {v : V} (p : PE' X Z σ H φ (.ok (.w w) S) Q) (s : SRep (gd X) H φ S) (r : Rep (gd X) H φ w v) : Q v H := p.now s ⟨r, trivial⟩
theorem fin_int {i : Int} (p : PE' X Z σ H φ (.ok (.w (.int i)) S) Q) (s : SRep (gd X) H φ S) : Q (.int i) H := fin p s (by simp only [Rep])
theorem fin_bl {i : Bool} (p : PE' X Z σ H φ (.ok (.w (.bl i)) S) Q) (s : SRep (gd X) H φ S) : Q (.bl i) H := fin p s (by simp only [Rep])
theorem fin_str {i : Str} (p : PE' X Z σ H φ (.ok (.w (.str i)) S) Q) (s : SRep (gd X) H φ S) : Q (.str i) H := fin p s (by simp only [Rep])
theorem fin_non (p : PE' X Z σ H φ (.ok (.w .non) S) Q) (s : SRep (gd X) H φ S) : Q .non H := fin p s (by simp only [Rep])
theorem fin_tup {ws : List W} {a : Addr} {xs : List V} (p : PE' X Z σ H φ (.ok (.w (.tup ws)) S) Q) (s : SRep (gd X) H φ S) (ha : SqT X.K H a xs) (r : Reps (gd X) H φ ws xs) : Q (.ref a) H :=
  fin p s (by simp only [Rep]; exact ⟨a, xs, rfl, ha, r⟩)
/-- a new tuple, a new list -/
theorem fin_newT {ws : List W} {xs : List V} {a : Addr} (p : PE' X Z σ H φ (.ok (.w (.tup ws)) S) Q) (s : SRep (gd X) H φ S) (r : Reps (gd X) H φ ws xs) (ha : H a = none) : Q (.ref a) (upd H a (.tup xs)) := by
  have e := s.newE (.tup xs) ha
  refine p.at_ e (s.newS _ ha) ⟨?_, trivial⟩
  show Rep _ _ _ _ _
  simp only [Rep]
  exact ⟨a, xs, rfl, SqT.of upd_same, Reps.mono s e _ _ r⟩
theorem fin_newL {ws : List W} {xs : List V} {a : Addr} (p : PE' X Z σ H φ (.ok (.l ws) S) Q) (s : SRep (gd X) H φ S) (r : Reps (gd X) H φ ws xs) (ha : H a = none) : Q (.ref a) (upd H a (.lst xs)) := by
  have e := s.newE (.lst xs) ha
  refine p.at_ e (s.newS _ ha) ⟨⟨a, xs, rfl, s.free ha, upd_same, Reps.mono s e _ _ r⟩, fun b hb => ?_⟩
  cases hb
  exact ha
end
theorem rep_int {g : Gd} {H : Hp} {φ : List Addr} {i : Int} {v : V} (r : TRep g H φ (.w (.int i)) v) : v = .int i := by simpa only [TRep, Rep] using r
theorem rep_str {g : Gd} {H : Hp} {φ : List Addr} {i : Str} {v : V} (r : TRep g H φ (.w (.str i)) v) : v = .str i := by simpa only [TRep, Rep] using r
theorem rep_bl {g : Gd} {H : Hp} {φ : List Addr} {i : Bool} {v : V} (r : TRep g H φ (.w (.bl i)) v) : v = .bl i := by simpa only [TRep, Rep] using r
theorem rep_non {g : Gd} {H : Hp} {φ : List Addr} {v : V} (r : TRep g H φ (.w .non) v) : v = .non := by simpa only [TRep, Rep] using r

/-! ### + - * // % -/
def wAdd (t u : T) (S : Store) : R T :=
  match t, u with
  | .w (.int i), .w (.int j) => .ok (.w (.int (i + j))) S
  | .w (.str i), .w (.str j) => if i.length + j.length ≤ sizeLine then .ok (.w (.str (i ++ j))) S else .no
  | .w (.tup a), .w (.tup b) => if a.length + b.length ≤ sizeLine then .ok (.w (.tup (a ++ b))) S else .no
  | t, u => match lstOf t S, lstOf u S with
    | some a, some b => if a.length + b.length ≤ sizeLine then .ok (.l (a ++ b)) S else .no
    | _, _ => .no
def rAddA (K : PySem.W.Frag) : R2 := fun x y H Q => (∃ i j, x = .int i ∧ y = .int j ∧ Q (.int (i + j)) H) ∨ (∃ i j, x = .str i ∧ y = .str j ∧ i.length + j.length ≤ sizeLine ∧ Q (.str (i ++ j)) H) ∨ rCatA K x y H Q ∨ rCat x y H Q
theorem op_addA {X : Cx} : OpR X (binaryOp .Add) (rAddA X.K) := OpR.or op_add (OpR.or op_add_str (OpR.or op_catA op_cat))
theorem os_add {X : Cx} : OpS X wAdd (rAddA X.K) := by
  intro Z t u x y S σ H φ Q s r1 r2 p
  have lists : ∀ {a b : List W}, lstOf t S = some a → lstOf u S = some b → PE' X Z σ H φ (if a.length + b.length ≤ sizeLine then .ok (.l (a ++ b)) S else .no) Q → rAddA X.K x y H Q := by
    intro a b h1 h2 p
    obtain ⟨l, xs, rfl, e1, q1⟩ := lstOf_ok s r1 h1
    obtain ⟨k, ys, rfl, e2, q2⟩ := lstOf_ok s r2 h2
    split at p
    · rename_i hz
      exact .inr (.inr (.inr ⟨l, k, xs, ys, rfl, rfl, e1, e2, by rw [← q1.length, ← q2.length]; exact hz, fun n hn => fin_newL p s (q1.append q2) hn⟩))
    · exact p.elim
  unfold wAdd at p
  split at p
  · cases rep_int r1; cases rep_int r2
    exact .inl ⟨_, _, rfl, rfl, fin_int p s⟩
  · cases rep_str r1; cases rep_str r2
    split at p
    · rename_i hz
      exact .inr (.inl ⟨_, _, rfl, rfl, hz, fin_str p s⟩)
    · exact p.elim
  · rename_i a b
    obtain ⟨l, xs, rfl, e1, q1⟩ := tupOf_ok r1 rfl
    obtain ⟨k, ys, rfl, e2, q2⟩ := tupOf_ok r2 rfl
    split at p
    · rename_i hz
      refine .inr (.inr (.inl ⟨l, k, xs, ys, rfl, rfl, e1, e2, by rw [← q1.length, ← q2.length]; exact hz, fun hx => ?_, fun hx hy => ?_, fun hx hy n hn => fin_newT p s (q1.append q2) hn⟩))
      · subst hx
        have : a = [] := List.length_eq_zero_iff.mp q1.length
        subst this
        exact fin_tup p s e2 q2
      · subst hy
        have : b = [] := List.length_eq_zero_iff.mp q2.length
        subst this
        rw [List.append_nil] at p
        exact fin_tup p s e1 q1
    · exact p.elim
  · split at p
    · exact lists (by assumption) (by assumption) p
    · exact p.elim
def wSub (t u : T) (S : Store) : R T :=
  match t, u with
  | .w (.int i), .w (.int j) => .ok (.w (.int (i - j))) S
  | _, _ => .no
theorem os_sub {X : Cx} : OpS X wSub (rI0 fun i j => .int (i - j)) := by
  intro Z t u x y S σ H φ Q s r1 r2 p
  unfold wSub at p
  split at p
  · cases rep_int r1; cases rep_int r2
    exact ⟨_, _, rfl, rfl, fin_int p s⟩
  · exact p.elim
/-- two ints, a condition -/
theorem os_rI {X : Cx} {f : T → T → Store → R T} {C : Int → Int → Prop} {gg : Int → Int → V} {k : Int → Int → W}
    (h1 : ∀ t u S, (∃ i j, t = .w (.int i) ∧ u = .w (.int j) ∧ C i j ∧ f t u S = .ok (.w (k i j)) S) ∨ f t u S = .no) (h2 : ∀ i j H φ, Rep (gd X) H φ (k i j) (gg i j)) : OpS X f (rI C gg) := by
  intro Z t u x y S σ H φ Q s r1 r2 p
  rcases h1 t u S with ⟨i, j, rfl, rfl, hc, e⟩ | e
  · rw [e] at p
    cases rep_int r1; cases rep_int r2
    exact ⟨i, j, rfl, rfl, hc, fin p s (h2 i j H φ)⟩
  · rw [e] at p; exact p.elim
open Classical in
/-- the product, of two ints below a million bits; a text some times -/
noncomputable def wMul (t u : T) (S : Store) : R T :=
  match t, u with
  | .w (.int i), .w (.int j) => if CMulW i j then .ok (.w (.int (i * j))) S else .no
  | _, _ => .no
theorem os_mul {X : Cx} : OpS X wMul (rI CMulW fun i j => .int (i * j)) := os_rI (k := fun i j => .int (i * j)) (fun t u S => by
  unfold wMul
  split
  · split
    · rename_i h; exact .inl ⟨_, _, rfl, rfl, h, rfl⟩
    · exact .inr rfl
  · exact .inr rfl) fun _ _ _ _ => by simp only [Rep]
def wDiv (t u : T) (S : Store) : R T :=
  match t, u with
  | .w (.int i), .w (.int j) => if 0 < j ∧ j.natAbs.log2 < 9000 then .ok (.w (.int (i / j))) S else .no
  | _, _ => .no
theorem os_div {X : Cx} : OpS X wDiv (rI CDivW fun i j => .int (i / j)) := os_rI (k := fun i j => .int (i / j)) (fun t u S => by
  unfold wDiv
  split
  · split
    · rename_i h; exact .inl ⟨_, _, rfl, rfl, h, rfl⟩
    · exact .inr rfl
  · exact .inr rfl) fun _ _ _ _ => by simp only [Rep]
def wMod (t u : T) (S : Store) : R T :=
  match t, u with
  | .w (.int i), .w (.int j) => if 0 < j then .ok (.w (.int (i % j))) S else .no
  | _, _ => .no
theorem os_mod {X : Cx} : OpS X wMod (rI (fun _ j => 0 < j) fun i j => .int (i % j)) := os_rI (k := fun i j => .int (i % j)) (fun t u S => by
  unfold wMod
  split
  · split
    · rename_i h; exact .inl ⟨_, _, rfl, rfl, h, rfl⟩
    · exact .inr rfl
  · exact .inr rfl) fun _ _ _ _ => by simp only [Rep]
def wPow (t u : T) (S : Store) : R T :=
  match t, u with
  | .w (.int i), .w (.int j) => if 0 ≤ j ∧ j ≤ 1000000 ∧ i.natAbs < 2 ^ 64 then .ok (.w (.int (i ^ j.toNat))) S else .no
  | _, _ => .no
theorem os_pow {X : Cx} : OpS X wPow (rI CPow fun i j => .int (i ^ j.toNat)) := os_rI (k := fun i j => .int (i ^ j.toNat)) (fun t u S => by
  unfold wPow
  split
  · split
    · rename_i h; exact .inl ⟨_, _, rfl, rfl, h, rfl⟩
    · exact .inr rfl
  · exact .inr rfl) fun _ _ _ _ => by simp only [Rep]
def wNeg (t : T) (S : Store) : R T :=
  match t with
  | .w (.int i) => .ok (.w (.int (-i))) S
  | _ => .no
theorem us_neg {X : Cx} : UnS X wNeg (rU fun i => .int (-i)) := by
  intro Z t x S σ H φ Q s r p
  unfold wNeg at p
  split at p
  · cases rep_int r
    exact ⟨_, rfl, fin_int p s⟩
  · exact p.elim
/-! ### comparisons -/
def wLt (t u : T) (S : Store) : R T :=
  match t, u with
  | .w (.int i), .w (.int j) => .ok (.w (.bl (decide (i < j)))) S
  | .w (.str i), .w (.str j) => .ok (.w (.bl (decide (i.cps.toList < j.cps.toList)))) S
  | _, _ => .no
def wLe (t u : T) (S : Store) : R T :=
  match t, u with
  | .w (.int i), .w (.int j) => .ok (.w (.bl (decide (i ≤ j)))) S
  | .w (.str i), .w (.str j) => .ok (.w (.bl (!decide (j.cps.toList < i.cps.toList)))) S
  | _, _ => .no
def wGt (t u : T) (S : Store) : R T :=
  match t, u with
  | .w (.int i), .w (.int j) => .ok (.w (.bl (decide (j < i)))) S
  | .w (.str i), .w (.str j) => .ok (.w (.bl (decide (j.cps.toList < i.cps.toList)))) S
  | _, _ => .no
def wGe (t u : T) (S : Store) : R T :=
  match t, u with
  | .w (.int i), .w (.int j) => .ok (.w (.bl (decide (j ≤ i)))) S
  | .w (.str i), .w (.str j) => .ok (.w (.bl (!decide (i.cps.toList < j.cps.toList)))) S
  | _, _ => .no
def rIS (p : Int → Int → Bool) (q : Str → Str → Bool) : R2 := fun x y H Q => (∃ i j, x = .int i ∧ y = .int j ∧ Q (.bl (p i j)) H) ∨ ∃ i j, x = .str i ∧ y = .str j ∧ Q (.bl (q i j)) H
theorem op_ltA {X : Cx} : OpR X (compareOp .Lt) (rIS (fun i j => decide (i < j)) fun i j => decide (i.cps.toList < j.cps.toList)) := OpR.or op_lt op_lt_str
theorem op_leA {X : Cx} : OpR X (compareOp .LtE) (rIS (fun i j => decide (i ≤ j)) fun i j => !decide (j.cps.toList < i.cps.toList)) := OpR.or op_le op_le_str
theorem op_gtA {X : Cx} : OpR X (compareOp .Gt) (rIS (fun i j => decide (j < i)) fun i j => decide (j.cps.toList < i.cps.toList)) := OpR.or op_gt op_gt_str
theorem op_geA {X : Cx} : OpR X (compareOp .GtE) (rIS (fun i j => decide (j ≤ i)) fun i j => !decide (i.cps.toList < j.cps.toList)) := OpR.or op_ge op_ge_str
theorem os_rIS {X : Cx} {f : T → T → Store → R T} {p : Int → Int → Bool} {q : Str → Str → Bool}
    (h1 : ∀ t u S, (∃ i j, t = .w (.int i) ∧ u = .w (.int j) ∧ f t u S = .ok (.w (.bl (p i j))) S) ∨ (∃ i j, t = .w (.str i) ∧ u = .w (.str j) ∧ f t u S = .ok (.w (.bl (q i j))) S) ∨ f t u S = .no) : OpS X f (rIS p q) := by
  intro Z t u x y S σ H φ Q s r1 r2 h
  rcases h1 t u S with ⟨i, j, rfl, rfl, e⟩ | ⟨i, j, rfl, rfl, e⟩ | e
  · rw [e] at h
    cases rep_int r1; cases rep_int r2
    exact .inl ⟨i, j, rfl, rfl, fin_bl h s⟩
  · rw [e] at h
    cases rep_str r1; cases rep_str r2
    exact .inr ⟨i, j, rfl, rfl, fin_bl h s⟩
  · rw [e] at h; exact h.elim
theorem os_lt {X : Cx} : OpS X wLt (rIS (fun i j => decide (i < j)) fun i j => decide (i.cps.toList < j.cps.toList)) := os_rIS fun t u S => by
  unfold wLt; split
  · exact .inl ⟨_, _, rfl, rfl, rfl⟩
  · exact .inr (.inl ⟨_, _, rfl, rfl, rfl⟩)
  · exact .inr (.inr rfl)
theorem os_le {X : Cx} : OpS X wLe (rIS (fun i j => decide (i ≤ j)) fun i j => !decide (j.cps.toList < i.cps.toList)) := os_rIS fun t u S => by
  unfold wLe; split
  · exact .inl ⟨_, _, rfl, rfl, rfl⟩
  · exact .inr (.inl ⟨_, _, rfl, rfl, rfl⟩)
  · exact .inr (.inr rfl)
theorem os_gt {X : Cx} : OpS X wGt (rIS (fun i j => decide (j < i)) fun i j => decide (j.cps.toList < i.cps.toList)) := os_rIS fun t u S => by
  unfold wGt; split
  · exact .inl ⟨_, _, rfl, rfl, rfl⟩
  · exact .inr (.inl ⟨_, _, rfl, rfl, rfl⟩)
  · exact .inr (.inr rfl)
theorem os_ge {X : Cx} : OpS X wGe (rIS (fun i j => decide (j ≤ i)) fun i j => !decide (i.cps.toList < j.cps.toList)) := os_rIS fun t u S => by
  unfold wGe; split
  · exact .inl ⟨_, _, rfl, rfl, rfl⟩
  · exact .inr (.inl ⟨_, _, rfl, rfl, rfl⟩)
  · exact .inr (.inr rfl)
/-- == of data -/
def wEq (t u : T) (S : Store) : R T :=
  match t.dat S, u.dat S with
  | some d, some e => if SeqAt.shaped d = true ∧ SeqAt.shaped e = true then .ok (.w (.bl (PyData.eqv d e))) S else .no
  | _, _ => .no
def wNe (t u : T) (S : Store) : R T :=
  match t.dat S, u.dat S with
  | some d, some e => if SeqAt.shaped d = true ∧ SeqAt.shaped e = true then .ok (.w (.bl (!PyData.eqv d e))) S else .no
  | _, _ => .no
theorem os_eq {X : Cx} : OpS X wEq (rEqD X.K) := by
  intro Z t u x y S σ H φ Q s r1 r2 p
  unfold wEq at p
  split at p
  · rename_i d e h1 h2
    split at p
    · rename_i hs
      exact ⟨d, e, T.dp s r1 h1, T.dp s r2 h2, hs.1, hs.2, fin_bl p s⟩
    · exact p.elim
  · exact p.elim
theorem os_ne {X : Cx} : OpS X wNe (rNeD X.K) := by
  intro Z t u x y S σ H φ Q s r1 r2 p
  unfold wNe at p
  split at p
  · rename_i d e h1 h2
    split at p
    · rename_i hs
      exact ⟨d, e, T.dp s r1 h1, T.dp s r2 h2, hs.1, hs.2, fin_bl p s⟩
    · exact p.elim
  · exact p.elim
/-- is None -/
def T.isNon : T → Bool
  | .w .non => true
  | _ => false
def wIsN (t u : T) (S : Store) : R T :=
  match u with
  | .w .non => .ok (.w (.bl t.isNon)) S
  | _ => .no
def wNotN (t u : T) (S : Store) : R T :=
  match u with
  | .w .non => .ok (.w (.bl (!t.isNon))) S
  | _ => .no
theorem rep_non_iff {g : Gd} {H : Hp} {φ : List Addr} {t : T} {v : V} (r : TRep g H φ t v) : decide (v = .non) = t.isNon := by
  cases t with
  | l ws => obtain ⟨a, xs, rfl, _⟩ := r; rfl
  | w x =>
    cases x with
    | non => cases rep_non r; rfl
    | bl b => cases rep_bl r; rfl
    | int b => cases rep_int r; rfl
    | str b => cases rep_str r; rfl
    | tup ws => simp only [TRep, Rep] at r; obtain ⟨a, xs, rfl, _⟩ := r; rfl
    | rol ws => simp only [TRep, Rep] at r; obtain ⟨a, xs, rfl, _⟩ := r; rfl
    | loc ws => simp only [TRep, Rep] at r; obtain ⟨a, _, rfl⟩ := r; rfl
    | exn c ns ws => simp only [TRep, Rep] at r
theorem os_isN {X : Cx} : OpS X wIsN (fun x y H Q => y = .non ∧ Q (.bl (decide (x = .non))) H) := by
  intro Z t u x y S σ H φ Q s r1 r2 p
  unfold wIsN at p
  split at p
  · refine ⟨rep_non r2, ?_⟩
    rw [rep_non_iff r1]
    exact fin_bl p s
  · exact p.elim
theorem os_notN {X : Cx} : OpS X wNotN (fun x y H Q => y = .non ∧ Q (.bl (!decide (x = .non))) H) := by
  intro Z t u x y S σ H φ Q s r1 r2 p
  unfold wNotN at p
  split at p
  · refine ⟨rep_non r2, ?_⟩
    rw [rep_non_iff r1]
    exact fin_bl p s
  · exact p.elim
/-- in -/
def contOf (u : T) (S : Store) : Option (List W) := match tupOf u with
  | some ws => some ws
  | none => seqLOf u S
def wInB (t u : T) (S : Store) : Option Bool :=
  match t, u with
  | .w (.str x), .w (.str z) => if x.length = 1 then some (decide (x.cps.getD 0 0 ∈ z.cps.toList)) else none
  | t, u => match contOf u S, t.dat S with
    | some ws, some d => match W.dats ws with
      | some ds => if SeqAt.shaped d = true ∧ SeqAt.shaped (.list ds) = true then some (ds.any fun z => PyData.eqv z d) else none
      | none => none
    | _, _ => none
def wIn (t u : T) (S : Store) : R T := match wInB t u S with
  | some b => .ok (.w (.bl b)) S
  | none => .no
def wNotIn (t u : T) (S : Store) : R T := match wInB t u S with
  | some b => .ok (.w (.bl (!b))) S
  | none => .no
def rInA (K : PySem.W.Frag) (k : Bool → Bool) : R2 := fun x y H Q => (∃ (c : Nat) (z : Str), x = .str ⟨#[c]⟩ ∧ y = .str z ∧ Q (.bl (k (decide (c ∈ z.cps.toList)))) H) ∨
  (∃ d ds, Dp K H x d ∧ (Dp K H y (.list ds) ∨ Dp K H y (.tuple ds)) ∧ SeqAt.shaped d = true ∧ SeqAt.shaped (.list ds) = true ∧ Q (.bl (k (ds.any fun z => PyData.eqv z d))) H)
theorem shaped_tl {ds : List PyData} (h : SeqAt.shaped (.list ds) = true) : SeqAt.shaped (.tuple ds) = true := by
  unfold SeqAt.shaped at h ⊢
  simpa [PyData.canLay0, PyData.depth] using h
theorem op_inA {X : Cx} (hu : X.A.units + 65 < cLine) : OpR X (compareOp .In) (rInA X.K id) := OpR.or op_in_sign (by
  intro pins s σ H x y v u Q I rx ry h
  obtain ⟨d, ds, hd, he, sd, se, q⟩ := h
  obtain ⟨as, r1⟩ := Dp.reads I d x v hd rx
  rcases he with he | he
  · obtain ⟨bs, r2⟩ := Dp.reads I (.list ds) y u he ry
    exact SeqAt.in_list_reads r2 r1 (SeqAt.canLay_of_shaped se) (SeqAt.canLay_of_shaped sd) (room_in_shaped sd hu) ⟨.bl _, H, I, rfl, q⟩
  · obtain ⟨bs, r2⟩ := Dp.reads I (.tuple ds) y u he ry
    exact SeqAt.in_tuple_reads r2 r1 (SeqAt.canLay_of_shaped (shaped_tl se)) (SeqAt.canLay_of_shaped sd) (room_in_shaped sd hu) ⟨.bl _, H, I, rfl, q⟩)
theorem op_notInA {X : Cx} (hu : X.A.units + 65 < cLine) : OpR X (compareOp .NotIn) (rInA X.K not) := OpR.or op_notIn_sign (by
  intro pins s σ H x y v u Q I rx ry h
  obtain ⟨d, ds, hd, he, sd, se, q⟩ := h
  obtain ⟨as, r1⟩ := Dp.reads I d x v hd rx
  rcases he with he | he
  · obtain ⟨bs, r2⟩ := Dp.reads I (.list ds) y u he ry
    exact SeqAt.notIn_list_reads r2 r1 (SeqAt.canLay_of_shaped se) (SeqAt.canLay_of_shaped sd) (room_in_shaped sd hu) ⟨.bl _, H, I, rfl, q⟩
  · obtain ⟨bs, r2⟩ := Dp.reads I (.tuple ds) y u he ry
    exact SeqAt.notIn_tuple_reads r2 r1 (SeqAt.canLay_of_shaped (shaped_tl se)) (SeqAt.canLay_of_shaped sd) (room_in_shaped sd hu) ⟨.bl _, H, I, rfl, q⟩)
theorem inB_ok {X : Cx} {Z : WX} {σ : St} {H : Hp} {φ : List Addr} {S : Store} {Q : VK} {t u : T} {x y : V} {b : Bool} {k : Bool → Bool} (s : SRep (gd X) H φ S) (r1 : TRep (gd X) H φ t x) (r2 : TRep (gd X) H φ u y) (h : wInB t u S = some b)
    (q : Q (.bl (k b)) H) : rInA X.K k x y H Q := by
  unfold wInB at h
  split at h
  · rename_i i z
    cases rep_str r1; cases rep_str r2
    split at h
    · rename_i hl
      cases h
      obtain ⟨cs⟩ := i
      obtain ⟨cs⟩ := cs
      match cs, hl with
      | [c], _ => exact .inl ⟨c, z, rfl, rfl, q⟩
    · cases h
  · split at h
    · rename_i ws d hc hd
      split at h
      · rename_i ds hds
        split at h
        · rename_i hs
          cases h
          refine .inr ⟨d, ds, T.dp s r1 hd, ?_, hs.1, hs.2, q⟩
          unfold contOf at hc
          split at hc
          · rename_i us ht
            cases hc
            obtain ⟨a, xs, rfl, e, q⟩ := tupOf_ok r2 ht
            exact .inr (.tup e (W.dps _ xs ds q hds))
          · obtain ⟨a, xs, rfl, e, q⟩ := seqLOf_ok s r2 hc
            exact .inl (.lst e (W.dps _ xs ds q hds))
        · cases h
      · cases h
    · cases h
theorem os_in {X : Cx} : OpS X wIn (rInA X.K id) := by
  intro Z t u x y S σ H φ Q s r1 r2 p
  unfold wIn at p
  split at p
  · rename_i b hb
    exact inB_ok (Z := Z) (σ := σ) s r1 r2 hb (fin_bl p s)
  · exact p.elim
theorem os_notIn {X : Cx} : OpS X wNotIn (rInA X.K not) := by
  intro Z t u x y S σ H φ Q s r1 r2 p
  unfold wNotIn at p
  split at p
  · rename_i b hb
    exact inB_ok (Z := Z) (σ := σ) s r1 r2 hb (fin_bl p s)
  · exact p.elim
end Ev

set_option Elab.async false
set_option linter.all false
set_option maxRecDepth 100000
/-! Ev4: tests, and or not, displays, subscripts, slices, built-ins by name. -/
namespace Ev
open PySem PySem.Spec PyProof.Rows L2

def asB (t : T) : Option Bool := match t with
  | .w (.bl b) => some b
  | _ => none
@[simp] theorem asB_bl (b : Bool) : asB (.w (.bl b)) = some b := rfl
def needB (r : R T) : R Bool := r.bind fun t S => match asB t with
  | some b => .ok b S
  | none => .no
theorem asB_ok {t : T} {b : Bool} (h : asB t = some b) : t = .w (.bl b) := by
  cases t with
  | l _ => cases h
  | w x => cases x <;> first | cases h; rfl | cases h
/-- a test by a value that is True or False -/
def t_val (m : ME) : MT := fun ρ S => needB (m ρ S)
def t_and (a b : MT) : MT := fun ρ S => (a ρ S).bind fun k S1 => if k = true then b ρ S1 else .ok false S1
def t_or (a b : MT) : MT := fun ρ S => (a ρ S).bind fun k S1 => if k = true then .ok true S1 else b ρ S1
def t_not (a : MT) : MT := fun ρ S => (a ρ S).bind fun k S1 => .ok (!k) S1
def m_and (a b : ME) : ME := fun ρ S => (a ρ S).bind fun t S1 => match asB t with
  | some true => b ρ S1
  | some false => .ok (.w (.bl false)) S1
  | none => .no
def m_or (a b : ME) : ME := fun ρ S => (a ρ S).bind fun t S1 => match asB t with
  | some false => b ρ S1
  | some true => .ok (.w (.bl true)) S1
  | none => .no
def m_not (a : ME) : ME := fun ρ S => (a ρ S).bind fun t S1 => match asB t with
  | some k => .ok (.w (.bl (!k))) S1
  | none => .no
def m_if (c : MT) (a b : ME) : ME := fun ρ S => (c ρ S).bind fun k S1 => if k = true then a ρ S1 else b ρ S1
def m_chain (f f' : T → T → Store → R T) (a b c : ME) : ME := fun ρ S => (a ρ S).bind fun x S1 => (b ρ S1).bind fun y S2 => (f x y S2).bind fun z S3 => match asB z with
  | some true => (c ρ S3).bind fun w S4 => f' y w S4
  | some false => .ok (.w (.bl false)) S3
  | none => .no
section
variable {X : Cx} {Z : WX} {a b c : Expr} {ma mb mc : ME} {ta tb : MT} {pos : Pos} {rest : List Expr}
theorem lT_of {σ : St} {H : Hp} {Q : Bool → Hp → Prop} (h : lT X Z (t_val ma) σ H Q) : lE X Z ma σ H fun x H' => ∃ k, x = .bl k ∧ Q k H' := by
  obtain ⟨φ, S, ρ, s, e, p⟩ := h
  refine ⟨φ, S, ρ, s, e, (PostG.bind (rep := repE (gd X)) p).mono fun x H1 ⟨t, S1, φ1, e1, s1, r1, p1⟩ => ?_⟩
  split at p1
  · rename_i b hb
    cases asB_ok hb
    exact ⟨b, rep_bl r1.1, p1.now s1 rfl⟩
  · exact p1.elim
theorem st_val (h : SE X Z a ma) (he : ∀ whole, isTrue a X.env whole = (do let v ← whole; standAt a.pos; holding [v] (truthy v)) := by intro _; rfl) : ST X Z a (t_val ma) :=
  (pt_val h he).imp fun _ _ _ h => lT_of h
theorem st_cmp {op : CmpOp} {f : T → T → Store → R T} {r : R2} (ho : OpR X (compareOp op) r) (hf : OpS X f r) (ha : SE X Z a ma) (hb : SE X Z b mb) (hm : behindInMarks op b = false) : ST X Z (.Compare a [op] [b] pos) (t_val (m_op2 f ma mb)) :=
  (pt_cmpR ho ha hb hm).imp fun σ H Q h => by
    have h := lT_of h
    obtain ⟨φ, S, ρ, s, e, p⟩ := h
    exact op2_imp hf ⟨φ, S, ρ, s, e, p⟩
theorem st_not (h : ST X Z a ta) : ST X Z (.UnaryOp .Not a pos) (t_not ta) := (pt_not h).imp fun σ H Q h => by
  obtain ⟨φ, S, ρ, s, e, p⟩ := h
  refine ⟨φ, S, ρ, s, e, (PostG.bind (rep := repT) p).mono fun k H1 ⟨t, S1, φ1, e1, s1, r1, p1⟩ => ?_⟩
  obtain rfl : t = k := r1
  exact p1.now s1 rfl
theorem sw_and1 (h : ST X Z a ta) : SW X Z (.BoolOp .And [a] pos) ta := pw_and1 h
theorem sw_or1 (h : ST X Z a ta) : SW X Z (.BoolOp .Or [a] pos) ta := pw_or1 h
theorem sw_and (h : ST X Z a ta) (h2 : SW X Z (.BoolOp .And (b :: rest) pos) tb) : SW X Z (.BoolOp .And (a :: b :: rest) pos) (t_and ta tb) := (pw_and h h2).imp fun σ H Q h => by
  obtain ⟨φ, S, ρ, s, e, p⟩ := h
  refine ⟨φ, S, ρ, s, e, (PostG.bind (rep := repT) p).mono fun k H1 ⟨t, S1, φ1, e1, s1, r1, p1⟩ => ?_⟩
  obtain rfl : t = k := r1
  cases t with
  | true => exact ⟨φ1, S1, ρ, s1, e.mono s e1, p1⟩
  | false => exact p1.now s1 rfl
theorem sw_or (h : ST X Z a ta) (h2 : SW X Z (.BoolOp .Or (b :: rest) pos) tb) : SW X Z (.BoolOp .Or (a :: b :: rest) pos) (t_or ta tb) := (pw_or h h2).imp fun σ H Q h => by
  obtain ⟨φ, S, ρ, s, e, p⟩ := h
  refine ⟨φ, S, ρ, s, e, (PostG.bind (rep := repT) p).mono fun k H1 ⟨t, S1, φ1, e1, s1, r1, p1⟩ => ?_⟩
  obtain rfl : t = k := r1
  cases t with
  | false => exact ⟨φ1, S1, ρ, s1, e.mono s e1, p1⟩
  | true => exact p1.now s1 rfl
theorem st_bool (h : SW X Z a ta) : ST X Z a ta := PW.pt h
theorem se_one {op} (h : SE X Z a ma) : SE X Z (.BoolOp op [a] pos) ma := pe_one h
theorem se_and (h : SE X Z a ma) (h2 : SE X Z (.BoolOp .And (b :: rest) pos) mb) : SE X Z (.BoolOp .And (a :: b :: rest) pos) (m_and ma mb) := (pe_and h h2).imp fun σ H Q h => by
  obtain ⟨φ, S, ρ, s, e, p⟩ := h
  refine ⟨φ, S, ρ, s, e, (PostG.bind (rep := repE (gd X)) p).mono fun k H1 ⟨t, S1, φ1, e1, s1, r1, p1⟩ => ?_⟩
  split at p1
  · rename_i hb
    cases asB_ok hb
    exact ⟨true, rep_bl r1.1, φ1, S1, ρ, s1, e.mono s e1, p1⟩
  · rename_i hb
    cases asB_ok hb
    exact ⟨false, rep_bl r1.1, fin_bl p1 s1⟩
  · exact p1.elim
theorem se_or (h : SE X Z a ma) (h2 : SE X Z (.BoolOp .Or (b :: rest) pos) mb) : SE X Z (.BoolOp .Or (a :: b :: rest) pos) (m_or ma mb) := (pe_or h h2).imp fun σ H Q h => by
  obtain ⟨φ, S, ρ, s, e, p⟩ := h
  refine ⟨φ, S, ρ, s, e, (PostG.bind (rep := repE (gd X)) p).mono fun k H1 ⟨t, S1, φ1, e1, s1, r1, p1⟩ => ?_⟩
  split at p1
  · rename_i hb
    cases asB_ok hb
    exact ⟨false, rep_bl r1.1, φ1, S1, ρ, s1, e.mono s e1, p1⟩
  · rename_i hb
    cases asB_ok hb
    exact ⟨true, rep_bl r1.1, fin_bl p1 s1⟩
  · exact p1.elim
theorem se_not (h : SE X Z a ma) : SE X Z (.UnaryOp .Not a pos) (m_not ma) := (pe_not h).imp fun σ H Q h => by
  obtain ⟨φ, S, ρ, s, e, p⟩ := h
  refine ⟨φ, S, ρ, s, e, (PostG.bind (rep := repE (gd X)) p).mono fun k H1 ⟨t, S1, φ1, e1, s1, r1, p1⟩ => ?_⟩
  split at p1
  · rename_i k' hb
    cases asB_ok hb
    exact ⟨k', rep_bl r1.1, fin_bl p1 s1⟩
  · exact p1.elim
theorem se_if (hc : ST X Z c ta) (ha : SE X Z a ma) (hb : SE X Z b mb) : SE X Z (.IfExp c a b pos) (m_if ta ma mb) := (pe_ifExp hc ha hb).imp fun σ H Q h => by
  obtain ⟨φ, S, ρ, s, e, p⟩ := h
  refine ⟨φ, S, ρ, s, e, (PostG.bind (rep := repT) p).mono fun k H1 ⟨t, S1, φ1, e1, s1, r1, p1⟩ => ?_⟩
  obtain rfl : t = k := r1
  cases t with
  | true => exact ⟨φ1, S1, ρ, s1, e.mono s e1, p1⟩
  | false => exact ⟨φ1, S1, ρ, s1, e.mono s e1, p1⟩
/-- r, of r's answers alone -/
def R2mono (r : R2) : Prop := ∀ x y H Q Q', (∀ z H', Q z H' → Q' z H') → r x y H Q → r x y H Q'
theorem chain_imp {f f' : T → T → Store → R T} {r r' : R2} (hf : OpS X f r) (hf' : OpS X f' r') {σ : St} {H : Hp} {Q : VK} (h : lE X Z (m_chain f f' ma mb mc) σ H Q) : tChain r r' (lE X Z ma) (lE X Z mb) (lE X Z mc) σ H Q := by
  obtain ⟨φ, S, ρ, s, e, p⟩ := h
  refine ⟨φ, S, ρ, s, e, (PostG.bind (rep := repE (gd X)) p).mono fun x H1 ⟨t, S1, φ1, e1, s1, r1, p1⟩ => ?_⟩
  refine ⟨φ1, S1, ρ, s1, e.mono s e1, (PostG.bind (rep := repE (gd X)) p1).mono fun y H2 ⟨u, S2, φ2, e2, s2, r2, p2⟩ => ?_⟩
  refine hf Z t u x y S2 σ H2 φ2 _ s2 (r1.1.mono s1 e2) r2.1 ((PostG.bind (rep := repE (gd X)) p2).mono fun z H3 ⟨k, S3, φ3, e3, s3, r3, p3⟩ => ?_)
  split at p3
  · rename_i hb
    cases asB_ok hb
    refine ⟨true, rep_bl r3.1, ?_⟩
    rw [if_pos rfl]
    refine ⟨φ3, S3, ρ, s3, (e.mono s e1).mono s1 (e2.trans e3), (PostG.bind (rep := repE (gd X)) p3).mono fun w' H4 ⟨w, S4, φ4, e4, s4, r4, p4⟩ => ?_⟩
    exact hf' Z u w y w' S4 σ H4 φ4 Q s4 ((r2.1.mono s2 e3).mono s3 e4) r4.1 p4
  · rename_i hb
    cases asB_ok hb
    refine ⟨false, rep_bl r3.1, ?_⟩
    rw [if_neg (by decide)]
    exact fin_bl p3 s3
  · exact p3.elim
theorem se_chain {op op' : CmpOp} {f f' : T → T → Store → R T} {r r' : R2} (ho : OpR X (compareOp op) r) (ho' : OpR X (compareOp op') r') (hf : OpS X f r) (hf' : OpS X f' r') (ha : SE X Z a ma) (hb : SE X Z b mb) (hc : SE X Z c mc)
    (hm : lastMarks [op, op'] [b, c] = false := by with_unfolding_all rfl) : SE X Z (.Compare a [op, op'] [b, c] pos) (m_chain f f' ma mb mc) :=
  (pe_chain ho ho' ha hb hc hm).imp fun _ _ _ h => chain_imp hf hf' h
theorem st_chain {op op' : CmpOp} {f f' : T → T → Store → R T} {r r' : R2} (ho : OpR X (compareOp op) r) (ho' : OpR X (compareOp op') r') (hf : OpS X f r) (hf' : OpS X f' r') (ha : SE X Z a ma) (hb : SE X Z b mb) (hc : SE X Z c mc)
    (hm : lastMarks [op, op'] [b, c] = false := by with_unfolding_all rfl) : ST X Z (.Compare a [op, op'] [b, c] pos) (t_val (m_chain f f' ma mb mc)) :=
  (pt_chain ho ho' ha hb hc hm).imp fun σ H Q h => chain_imp hf hf' (lT_of h)
end
/-! ### argument lists, displays -/
section
variable {X : Cx} {Z : WX} {e : Expr} {es : List Expr} {me : ME} {mr : MA} {pos : Pos}
theorem sa_nil : SA X Z [] m_nil := pa_nil.imp fun σ H Q h => by
  obtain ⟨φ, S, ρ, s, e, p⟩ := h
  exact p.now s Reps.nil
theorem sa_cons (h : SE X Z e me) (hr : SA X Z es mr) (hs : starEach (e :: es) X.env = (false, eval e X.env) :: starEach es X.env := by rfl) : SA X Z (e :: es) (m_cons me mr) := (pa_cons h hr hs).imp fun σ H Q h => by
  obtain ⟨φ, S, ρ, s, e, p⟩ := h
  refine ⟨φ, S, ρ, s, e, (PostG.settle p).mono fun x H1 ⟨w, S1, φ1, e1, s1, r1, p1⟩ => ?_⟩
  refine ⟨φ1, S1, ρ, s1, e.mono s e1, (PostG.bind (rep := repA (gd X)) p1).mono fun xs H2 ⟨ws, S2, φ2, e2, s2, r2, p2⟩ => ?_⟩
  exact p2.now s2 (Reps.cons (Rep.mono s1 e2 w x r1) r2)
def m_tup (m : MA) : ME := fun ρ S => (m ρ S).bind fun ws S1 => if ws.length ≤ sizeLine then .ok (.w (.tup ws)) S1 else .no
def m_lst (m : MA) : ME := fun ρ S => (m ρ S).bind fun ws S1 => if ws.length ≤ sizeLine then .ok (.l ws) S1 else .no
theorem se_tup {x1} (h : SA X Z es mr) : SE X Z (.Tuple es x1 pos) (m_tup mr) := (pe_tup h).imp fun σ H Q h => by
  obtain ⟨φ, S, ρ, s, e, p⟩ := h
  refine ⟨φ, S, ρ, s, e, (PostG.bind (rep := repA (gd X)) p).mono fun xs H1 ⟨ws, S1, φ1, e1, s1, r1, p1⟩ => ?_⟩
  split at p1
  · rename_i hz
    exact ⟨by rw [← r1.length]; exact hz, fun n hn => fin_newT p1 s1 r1 hn⟩
  · exact p1.elim
theorem se_lst (h : SA X Z es mr) : SE X Z (.List es pos) (m_lst mr) := (pe_lst h).imp fun σ H Q h => by
  obtain ⟨φ, S, ρ, s, e, p⟩ := h
  refine ⟨φ, S, ρ, s, e, (PostG.bind (rep := repA (gd X)) p).mono fun xs H1 ⟨ws, S1, φ1, e1, s1, r1, p1⟩ => ?_⟩
  split at p1
  · rename_i hz
    exact ⟨by rw [← r1.length]; exact hz, fun n hn => fin_newL p1 s1 r1 hn⟩
  · exact p1.elim
end
/-! ### subscripts -/
def wIx (t u : T) (S : Store) : R T :=
  match u with
  | .w (.int i) => match t with
    | .w (.str z) => if z.length ≤ sizeLine then (match atI z.cps.toList i with
      | some c => .ok (.w (.str ⟨#[c]⟩)) S
      | none => .no) else .no
    | t => match contOf t S with
      | some ws => match atI ws i with
        | some w => .ok (.w w) S
        | none => .no
      | none => .no
  | _ => .no
theorem atI_rep {g : Gd} {H : Hp} {φ : List Addr} {ws : List W} {xs : List V} {i : Int} {w : W} (r : Reps g H φ ws xs) (h : atI ws i = some w) : ∃ x, atI xs i = some x ∧ Rep g H φ w x := by
  unfold atI at h ⊢
  rw [← r.length]
  cases q : ixN ws.length i with
  | none => rw [q] at h; cases h
  | some j =>
    rw [q] at h
    exact r.get h
theorem contOf_ok {g : Gd} {H : Hp} {φ : List Addr} {S : Store} {t : T} {x : V} {ws : List W} (s : SRep g H φ S) (r : TRep g H φ t x) (h : contOf t S = some ws) : ∃ a xs, x = .ref a ∧ (SqL g.K H a xs ∨ SqT g.K H a xs) ∧ Reps g H φ ws xs := by
  unfold contOf at h
  split at h
  · rename_i us q
    cases h
    obtain ⟨a, xs, h1, h2, h3⟩ := tupOf_ok r q
    exact ⟨a, xs, h1, .inr h2, h3⟩
  · obtain ⟨a, xs, h1, h2, h3⟩ := seqLOf_ok s r h
    exact ⟨a, xs, h1, .inl h2, h3⟩
theorem os_ix {X : Cx} : OpS X wIx (rIx X.K) := by
  intro Z t u x y S σ H φ Q s r1 r2 p
  unfold wIx at p
  split at p
  · rename_i i
    cases rep_int r2
    split at p
    · rename_i z
      cases rep_str r1
      split at p
      · rename_i hz
        split at p
        · rename_i c hc
          exact .inr (.inr ⟨z, i, c, rfl, rfl, hz, hc, fin_str p s⟩)
        · exact p.elim
      · exact p.elim
    · split at p
      · rename_i ws hws
        obtain ⟨a, xs, rfl, hs, hr⟩ := contOf_ok s r1 hws
        split at p
        · rename_i w hw
          obtain ⟨v, hv, rv⟩ := atI_rep hr hw
          rcases hs with hs | hs
          · exact .inl ⟨a, xs, i, v, rfl, rfl, hs, hv, fin p s rv⟩
          · exact .inr (.inl ⟨a, xs, i, v, rfl, rfl, hs, hv, fin p s rv⟩)
        · exact p.elim
      · exact p.elim
  · exact p.elim
section
variable {X : Cx} {Z : WX} {a b : Expr} {ma mb : ME} {pos : Pos}
theorem se_ix (ha : SE X Z a ma) (hb : SE X Z b mb) (hs : PlainIx b := by intro _ _; rfl) : SE X Z (.Subscript a b pos) (m_op2 wIx ma mb) := (pe_ix ix_seq ha hb hs).imp fun _ _ _ h => op2_imp os_ix h
/-! ### slices -/
/-- a part of a slice -/
abbrev MO := Rho → Store → R (Option Int)
def o_none : MO := fun _ S => .ok none S
def o_some (m : ME) : MO := fun ρ S => (m ρ S).bind fun t S1 => match t with
  | .w (.int i) => .ok (some i) S1
  | _ => .no
abbrev repO : RepT (Option Int) (Option Int) := fun _ _ _ a b => a = b
instance : Anti repO := ⟨fun _ _ h => h⟩
abbrev lO (X : Cx) (Z : WX) (m : MO) : TO := lift repO (gd X) Z m
abbrev SO (X : Cx) (Z : WX) (e : Option Expr) (m : MO) : Prop := PO X e (lO X Z m)
theorem _root_.L2.PO.imp {X : Cx} {e : Option Expr} {t t' : TO} (h : PO X e t) (i : ∀ σ H Q, t' σ H Q → t σ H Q) : PO X e t' := by
  constructor
  intro pins s σ H Q I q
  exact h.run pins s σ H Q I (i _ _ _ q)
theorem so_none : SO X Z none o_none := po_none.imp fun σ H Q h => by
  obtain ⟨φ, S, ρ, s, e, p⟩ := h
  exact p.now s rfl
theorem so_some (h : SE X Z a ma) : SO X Z (some a) (o_some ma) := (po_some h).imp fun σ H Q h => by
  obtain ⟨φ, S, ρ, s, e, p⟩ := h
  refine ⟨φ, S, ρ, s, e, (PostG.bind (rep := repE (gd X)) p).mono fun x H1 ⟨t, S1, φ1, e1, s1, r1, p1⟩ => ?_⟩
  split at p1
  · exact ⟨_, rep_int r1.1, p1.now s1 rfl⟩
  · exact p1.elim
/-- what a slice picks -/
def cutW (ws : List W) (lo hi : Option Int) : List W := (ws.drop (HT.sIx ws.length 0 lo)).take (HT.sIx ws.length ws.length hi - HT.sIx ws.length 0 lo)
theorem cutW_rep {g : Gd} {H : Hp} {φ : List Addr} {ws : List W} {xs : List V} (r : Reps g H φ ws xs) (lo hi : Option Int) : Reps g H φ (cutW ws lo hi) (cutV xs lo hi) := by
  unfold cutW cutV
  rw [r.length]
  exact (r.drop _).take _
def wSl (t : T) (lo hi : Option Int) (S : Store) : R T :=
  match t with
  | .w (.str z) => if z.length ≤ sizeLine then .ok (.w (.str (cutS z lo hi))) S else .no
  | .w (.tup ws) => .ok (.w (.tup (cutW ws lo hi))) S
  | t => match seqLOf t S with
    | some ws => .ok (.l (cutW ws lo hi)) S
    | none => .no
def m_sl (a : ME) (lo hi : MO) : ME := fun ρ S => (a ρ S).bind fun t S1 => (lo ρ S1).bind fun l S2 => (hi ρ S2).bind fun h S3 => wSl t l h S3
def rSlX (K : PySem.W.Frag) : V → Option Int → Option Int → Hp → VK → Prop := fun x lo hi H Q => rSlL K x lo hi H Q ∨ rSlA K x lo hi H Q ∨ rSlS x lo hi H Q
theorem sl_any : SlR X (rSlX X.K) := SlR.or sl_list (SlR.or sl_tupA sl_str)
theorem sIx_bound (n d : Nat) (hd : d ≤ n) (o : Option Int) : HT.sIx n d o ≤ n := HT.sIx_le n d hd o
theorem wSl_ok {t : T} {x : V} {lo hi : Option Int} {S : Store} {σ : St} {H : Hp} {φ : List Addr} {Q : VK} (s : SRep (gd X) H φ S) (r : TRep (gd X) H φ t x) (p : PE' X Z σ H φ (wSl t lo hi S) Q) : rSlX X.K x lo hi H Q := by
  unfold wSl at p
  split at p
  · rename_i z
    cases rep_str r
    split at p
    · rename_i hz
      exact .inr (.inr ⟨z, rfl, hz, fin_str p s⟩)
    · exact p.elim
  · rename_i ws
    obtain ⟨a, xs, rfl, hs, hr⟩ := tupOf_ok r rfl
    refine .inr (.inl ⟨a, xs, rfl, hs, fun ⟨h1, h2⟩ => ?_, fun _ n hn => fin_newT p s (cutW_rep hr lo hi) hn⟩)
    have e : cutW ws lo hi = ws := by
      unfold cutW
      rw [hr.length, h1, h2, List.drop_zero, Nat.sub_zero, ← hr.length, List.take_length]
    rw [e] at p
    exact fin_tup p s hs hr
  · split at p
    · rename_i ws hws
      obtain ⟨a, xs, rfl, hs, hr⟩ := seqLOf_ok s r hws
      exact .inl ⟨a, xs, rfl, hs, fun n hn => fin_newL p s (cutW_rep hr lo hi) hn⟩
    · exact p.elim
theorem se_sl {lo hi : Option Expr} {ml mh : MO} {p2 : Pos} (ha : SE X Z a ma) (hl : SO X Z lo ml) (hh : SO X Z hi mh) : SE X Z (.Subscript a (.Slice lo hi none p2) pos) (m_sl ma ml mh) := (pe_slice sl_any ha hl hh).imp fun σ H Q h => by
  obtain ⟨φ, S, ρ, s, e, p⟩ := h
  refine ⟨φ, S, ρ, s, e, (PostG.bind (rep := repE (gd X)) p).mono fun x H1 ⟨t, S1, φ1, e1, s1, r1, p1⟩ => ?_⟩
  refine ⟨φ1, S1, ρ, s1, e.mono s e1, (PostG.bind (rep := repO) p1).mono fun l H2 ⟨l', S2, φ2, e2, s2, r2, p2⟩ => ?_⟩
  obtain rfl : l' = l := r2
  refine ⟨φ2, S2, ρ, s2, (e.mono s e1).mono s1 e2, (PostG.bind (rep := repO) p2).mono fun l2 H3 ⟨l2', S3, φ3, e3, s3, r3, p3⟩ => ?_⟩
  obtain rfl : l2' = l2 := r3
  exact wSl_ok s3 ((r1.1.mono s1 e2).mono s2 e3) p3
end
/-! ### built-in functions by name -/
/-- the arguments as they are: the first may be a list that nobody knows -/
def m_b1 (f : T → Store → R T) (a : ME) : ME := fun ρ S => (a ρ S).bind fun t S1 => f t S1
def m_b2 (f : T → T → Store → R T) (a b : ME) : ME := fun ρ S => (a ρ S).bind fun t S1 => (b ρ S1).bind fun u S2 => f t u S2
def C1 (X : Cx) (f : T → Store → R T) (r : List V → Hp → VK → Prop) : Prop :=
  ∀ (Z : WX) (t : T) (x : V) (S : Store) (σ : St) (H : Hp) (φ : List Addr) (Q : VK), SRep (gd X) H φ S → TRep (gd X) H φ t x → PE' X Z σ H φ (f t S) Q → r [x] H Q
def C2 (X : Cx) (f : T → T → Store → R T) (r : List V → Hp → VK → Prop) : Prop :=
  ∀ (Z : WX) (t u : T) (x y : V) (S : Store) (σ : St) (H : Hp) (φ : List Addr) (Q : VK), SRep (gd X) H φ S → TRep (gd X) H φ t x → TRep (gd X) H φ u y → PE' X Z σ H φ (f t u S) Q → r [x, y] H Q
section
variable {X : Cx} {Z : WX} {a b : Expr} {ma mb : ME} {pos p : Pos} {x : Str} {id : String} {r : List V → Hp → VK → Prop}
/-- arguments unsettled -/
theorem pa1 (ha : SE X Z a ma) (hs : starEach [a] X.env = (false, eval a X.env) :: starEach [] X.env := by rfl) : PA X [a] (tCons (lE X Z ma) tNil) := pa_cons ha pa_nil hs
theorem pa2 (ha : SE X Z a ma) (hb : SE X Z b mb) (hs : starEach [a, b] X.env = (false, eval a X.env) :: starEach [b] X.env := by rfl) (hs2 : starEach [b] X.env = (false, eval b X.env) :: starEach [] X.env := by rfl) : PA X [a, b] (tCons (lE X Z ma) (tCons (lE X Z mb) tNil)) := pa_cons ha (pa1 hb hs2) hs
theorem b1_imp {f : T → Store → R T} (hf : C1 X f r) {σ : St} {H : Hp} {Q : VK} (h : lE X Z (m_b1 f ma) σ H Q) : tCB r (tCons (lE X Z ma) tNil) σ H Q := by
  obtain ⟨φ, S, ρ, s, e, p⟩ := h
  refine ⟨φ, S, ρ, s, e, (PostG.bind (rep := repE (gd X)) p).mono fun x H1 ⟨t, S1, φ1, e1, s1, r1, p1⟩ => ?_⟩
  exact hf Z t x S1 σ H1 φ1 Q s1 r1.1 p1
theorem b2_imp {f : T → T → Store → R T} (hf : C2 X f r) {σ : St} {H : Hp} {Q : VK} (h : lE X Z (m_b2 f ma mb) σ H Q) : tCB r (tCons (lE X Z ma) (tCons (lE X Z mb) tNil)) σ H Q := by
  obtain ⟨φ, S, ρ, s, e, p⟩ := h
  refine ⟨φ, S, ρ, s, e, (PostG.bind (rep := repE (gd X)) p).mono fun x H1 ⟨t, S1, φ1, e1, s1, r1, p1⟩ => ?_⟩
  refine ⟨φ1, S1, ρ, s1, e.mono s e1, (PostG.bind (rep := repE (gd X)) p1).mono fun y H2 ⟨u, S2, φ2, e2, s2, r2, p2⟩ => ?_⟩
  exact hf Z t u x y S2 σ H2 φ2 Q s2 (r1.1.mono s1 e2) r2.1 p2
theorem se_b1 {f : T → Store → R T} (hc : CallR X (.builtin id) r) (hf : C1 X f r) (hg : Gl X x) (hm : X.mg x = none) (hv : bootBuiltins x = some (.builtin id)) (ha : SE X Z a ma) (hn : x ≠ "__name__" := by decide) (hdb : (x == ("__debug__" : Str)) = false := by decide)
    (he : starEach [a] X.env = (false, eval a X.env) :: starEach [] X.env := by rfl) (hpl : (backTo pos (starEach [] X.env)).any (·.1) = false := by rfl) : SE X Z (.Call (.Name x p) [a] [] pos) (m_b1 f ma) :=
  (pe_callB hc hg hm hv (pa1 ha he) hn hdb he hpl).imp fun _ _ _ h => b1_imp hf h
theorem se_b2 {f : T → T → Store → R T} (hc : CallR X (.builtin id) r) (hf : C2 X f r) (hg : Gl X x) (hm : X.mg x = none) (hv : bootBuiltins x = some (.builtin id)) (ha : SE X Z a ma) (hb : SE X Z b mb) (hn : x ≠ "__name__" := by decide) (hdb : (x == ("__debug__" : Str)) = false := by decide)
    (he : starEach [a, b] X.env = (false, eval a X.env) :: starEach [b] X.env := by rfl) (he2 : starEach [b] X.env = (false, eval b X.env) :: starEach [] X.env := by rfl) (hpl : (backTo pos (starEach [b] X.env)).any (·.1) = false := by rfl) : SE X Z (.Call (.Name x p) [a, b] [] pos) (m_b2 f ma mb) :=
  (pe_callB hc hg hm hv (pa2 ha hb he he2) hn hdb he hpl).imp fun _ _ _ h => b2_imp hf h
theorem se_t1 {f : T → Store → R T} {Ty : String} (hc : CallR X (.type Ty) r) (hf : C1 X f r) (hg : Gl X x) (hm : X.mg x = none) (hv : bootBuiltins x = some (.type Ty)) (ha : SE X Z a ma) (hn : x ≠ "__name__" := by decide) (hdb : (x == ("__debug__" : Str)) = false := by decide)
    (he : starEach [a] X.env = (false, eval a X.env) :: starEach [] X.env := by rfl) (hpl : (backTo pos (starEach [] X.env)).any (·.1) = false := by rfl) : SE X Z (.Call (.Name x p) [a] [] pos) (m_b1 f ma) :=
  (pe_callTy hc hg hm hv (pa1 ha he) hn hdb he hpl).imp fun _ _ _ h => b1_imp hf h
end
/-! len, abs, max, min, sum, all, any, list, tuple, int -/
def fLen (t : T) (S : Store) : R T := match t with
  | .w (.str z) => if z.length ≤ sizeLine then .ok (.w (.int z.length)) S else .no
  | t => match contOf t S with
    | some ws => .ok (.w (.int ws.length)) S
    | none => .no
def rLenA (K : PySem.W.Frag) : List V → Hp → VK → Prop := fun xs H Q => (∃ p ys, xs = [.ref p] ∧ (SqL K H p ys ∨ SqT K H p ys) ∧ Q (.int ys.length) H) ∨ (∃ z, xs = [.str z] ∧ z.length ≤ sizeLine ∧ Q (.int z.length) H)
section
variable {X : Cx}
theorem call_lenA : CallR X (.builtin "len") (rLenA X.K) := CallR.or call_len_seq call_len_str
theorem c_len : C1 X fLen (rLenA X.K) := by
  intro Z t x S σ H φ Q s r p
  unfold fLen at p
  split at p
  · rename_i z
    cases rep_str r
    split at p
    · rename_i hz
      exact .inr ⟨z, rfl, hz, fin_int p s⟩
    · exact p.elim
  · split at p
    · rename_i ws hws
      obtain ⟨a, xs, rfl, hs, hr⟩ := contOf_ok s r hws
      exact .inl ⟨a, xs, rfl, hs, by rw [← hr.length]; exact fin_int p s⟩
    · exact p.elim
def fAbs (t : T) (S : Store) : R T := match t with
  | .w (.int i) => .ok (.w (.int (if i < 0 then -i else i))) S
  | _ => .no
theorem c_abs : C1 X fAbs (fun xs H Q => ∃ i, xs = [.int i] ∧ Q (.int (if i < 0 then -i else i)) H) := by
  intro Z t x S σ H φ Q s r p
  unfold fAbs at p
  split at p
  · cases rep_int r
    exact ⟨_, rfl, fin_int p s⟩
  · exact p.elim
def fMax2 (t u : T) (S : Store) : R T := match t, u with
  | .w (.int i), .w (.int j) => .ok (.w (.int (if j > i then j else i))) S
  | _, _ => .no
def fMin2 (t u : T) (S : Store) : R T := match t, u with
  | .w (.int i), .w (.int j) => .ok (.w (.int (if j < i then j else i))) S
  | _, _ => .no
theorem c_max2 : C2 X fMax2 (fun xs H Q => ∃ i j, xs = [.int i, .int j] ∧ Q (.int (if j > i then j else i)) H) := by
  intro Z t u x y S σ H φ Q s r1 r2 p
  unfold fMax2 at p
  split at p
  · cases rep_int r1; cases rep_int r2
    exact ⟨_, _, rfl, fin_int p s⟩
  · exact p.elim
theorem c_min2 : C2 X fMin2 (fun xs H Q => ∃ i j, xs = [.int i, .int j] ∧ Q (.int (if j < i then j else i)) H) := by
  intro Z t u x y S σ H φ Q s r1 r2 p
  unfold fMin2 at p
  split at p
  · cases rep_int r1; cases rep_int r2
    exact ⟨_, _, rfl, fin_int p s⟩
  · exact p.elim
def fInt (t : T) (S : Store) : R T := match t with
  | .w (.int i) => .ok (.w (.int i)) S
  | .w (.bl k) => .ok (.w (.int (if k then 1 else 0))) S
  | _ => .no
theorem c_int : C1 X fInt (fun xs H Q => (∃ i, xs = [.int i] ∧ Q (.int i) H) ∨ ∃ k, xs = [.bl k] ∧ Q (.int (if k then 1 else 0)) H) := by
  intro Z t x S σ H φ Q s r p
  unfold fInt at p
  split at p
  · cases rep_int r
    exact .inl ⟨_, rfl, fin_int p s⟩
  · cases rep_bl r
    exact .inr ⟨_, rfl, fin_int p s⟩
  · exact p.elim
/-- a list of ints, of truths -/
def intsOf : List W → Option (List Int)
  | [] => some []
  | .int i :: ws => (intsOf ws).map (i :: ·)
  | _ => none
def blsOf : List W → Option (List Bool)
  | [] => some []
  | .bl i :: ws => (blsOf ws).map (i :: ·)
  | _ => none
theorem intsOf_ok {g : Gd} {H : Hp} {φ : List Addr} : ∀ {ws : List W} {ns : List Int} {xs : List V}, intsOf ws = some ns → Reps g H φ ws xs → xs = ns.map V.int
  | [], ns, xs, h, r => by
    simp only [intsOf, Option.some.injEq] at h
    simp only [Reps] at r
    subst h; subst r; rfl
  | w :: ws, ns, xs, h, r => by
    cases w with
    | int i =>
      simp only [intsOf, Option.map_eq_some_iff] at h
      obtain ⟨ms, e, rfl⟩ := h
      simp only [Reps] at r
      obtain ⟨x, ys, rfl, q1, q2⟩ := r
      simp only [Rep] at q1
      subst q1
      rw [intsOf_ok e q2]; rfl
    | _ => simp only [intsOf] at h; cases h
theorem blsOf_ok {g : Gd} {H : Hp} {φ : List Addr} : ∀ {ws : List W} {ns : List Bool} {xs : List V}, blsOf ws = some ns → Reps g H φ ws xs → xs = ns.map V.bl
  | [], ns, xs, h, r => by
    simp only [blsOf, Option.some.injEq] at h
    simp only [Reps] at r
    subst h; subst r; rfl
  | w :: ws, ns, xs, h, r => by
    cases w with
    | bl i =>
      simp only [blsOf, Option.map_eq_some_iff] at h
      obtain ⟨ms, e, rfl⟩ := h
      simp only [Reps] at r
      obtain ⟨x, ys, rfl, q1, q2⟩ := r
      simp only [Rep] at q1
      subst q1
      rw [blsOf_ok e q2]; rfl
    | _ => simp only [blsOf] at h; cases h
def fSum (t : T) (S : Store) : R T := match (seqLOf t S).bind intsOf with
  | some ns => .ok (.w (.int ns.sum)) S
  | none => .no
theorem c_sum : C1 X fSum (rSum X.K) := by
  intro Z t x S σ H φ Q s r p
  unfold fSum at p
  split at p
  · rename_i ns h
    obtain ⟨ws, h1, h2⟩ := Option.bind_eq_some_iff.mp h
    obtain ⟨a, xs, rfl, hs, hr⟩ := seqLOf_ok s r h1
    have e := intsOf_ok h2 hr
    subst e
    exact ⟨a, ns, rfl, hs, fin_int p s⟩
  · exact p.elim
def fAll (t : T) (S : Store) : R T := match (seqLOf t S).bind blsOf with
  | some ns => .ok (.w (.bl (ns.all id))) S
  | none => .no
def fAny (t : T) (S : Store) : R T := match (seqLOf t S).bind blsOf with
  | some ns => .ok (.w (.bl (ns.any id))) S
  | none => .no
theorem c_all : C1 X fAll (rAll X.K) := by
  intro Z t x S σ H φ Q s r p
  unfold fAll at p
  split at p
  · rename_i ns h
    obtain ⟨ws, h1, h2⟩ := Option.bind_eq_some_iff.mp h
    obtain ⟨a, xs, rfl, hs, hr⟩ := seqLOf_ok s r h1
    have e := blsOf_ok h2 hr
    subst e
    exact ⟨a, ns, rfl, hs, fin_bl p s⟩
  · exact p.elim
theorem c_any : C1 X fAny (rAny X.K) := by
  intro Z t x S σ H φ Q s r p
  unfold fAny at p
  split at p
  · rename_i ns h
    obtain ⟨ws, h1, h2⟩ := Option.bind_eq_some_iff.mp h
    obtain ⟨a, xs, rfl, hs, hr⟩ := seqLOf_ok s r h1
    have e := blsOf_ok h2 hr
    subst e
    exact ⟨a, ns, rfl, hs, fin_bl p s⟩
  · exact p.elim
/-- the least, the greatest of a list -/
def leastOf : List Int → Option Int
  | [] => none
  | i :: is => some (is.foldl min i)
def greatestOf : List Int → Option Int
  | [] => none
  | i :: is => some (is.foldl max i)
theorem foldl_min_le : ∀ (is : List Int) (i : Int), is.foldl min i ≤ i ∧ (∀ y ∈ is, is.foldl min i ≤ y) ∧ (is.foldl min i = i ∨ is.foldl min i ∈ is)
  | [], i => ⟨Int.le_refl _, fun _ h => (by cases h), .inl rfl⟩
  | j :: is, i => by
    obtain ⟨h1, h2, h3⟩ := foldl_min_le is (min i j)
    simp only [List.foldl_cons]
    refine ⟨by omega, fun y hy => ?_, ?_⟩
    · rcases List.mem_cons.mp hy with rfl | hy
      · omega
      · exact h2 y hy
    · rcases h3 with h3 | h3
      · by_cases q : i ≤ j
        · left; omega
        · right; rw [h3, show min i j = j by omega]; exact List.mem_cons_self
      · right; exact List.mem_cons_of_mem _ h3
theorem foldl_max_ge : ∀ (is : List Int) (i : Int), i ≤ is.foldl max i ∧ (∀ y ∈ is, y ≤ is.foldl max i) ∧ (is.foldl max i = i ∨ is.foldl max i ∈ is)
  | [], i => ⟨Int.le_refl _, fun _ h => (by cases h), .inl rfl⟩
  | j :: is, i => by
    obtain ⟨h1, h2, h3⟩ := foldl_max_ge is (max i j)
    simp only [List.foldl_cons]
    refine ⟨by omega, fun y hy => ?_, ?_⟩
    · rcases List.mem_cons.mp hy with rfl | hy
      · omega
      · exact h2 y hy
    · rcases h3 with h3 | h3
      · by_cases q : j ≤ i
        · left; omega
        · right; rw [h3, show max i j = j by omega]; exact List.mem_cons_self
      · right; exact List.mem_cons_of_mem _ h3
def fMinL (t : T) (S : Store) : R T := match ((seqLOf t S).bind intsOf).bind leastOf with
  | some m => .ok (.w (.int m)) S
  | none => .no
def fMaxL (t : T) (S : Store) : R T := match ((seqLOf t S).bind intsOf).bind greatestOf with
  | some m => .ok (.w (.int m)) S
  | none => .no
theorem c_minL : C1 X fMinL (rMin X.K) := by
  intro Z t x S σ H φ Q s r p
  unfold fMinL at p
  split at p
  · rename_i m h
    obtain ⟨ns, h0, h3⟩ := Option.bind_eq_some_iff.mp h
    obtain ⟨ws, h1, h2⟩ := Option.bind_eq_some_iff.mp h0
    obtain ⟨a, xs, rfl, hs, hr⟩ := seqLOf_ok s r h1
    have e := intsOf_ok h2 hr
    subst e
    cases ns with
    | nil => cases h3
    | cons i is =>
      simp only [leastOf, Option.some.injEq] at h3
      subst h3
      obtain ⟨q1, q2, q3⟩ := foldl_min_le is i
      refine ⟨a, i :: is, rfl, hs, by simp, fun m hm hle => ?_⟩
      have e : m = is.foldl min i := by
        have z1 := hle (is.foldl min i) (by rcases q3 with q | q; rw [q]; exact List.mem_cons_self; exact List.mem_cons_of_mem _ q)
        have z2 : is.foldl min i ≤ m := by rcases List.mem_cons.mp hm with rfl | hm; exact q1; exact q2 m hm
        omega
      rw [e]
      exact fin_int p s
  · exact p.elim
theorem c_maxL : C1 X fMaxL (rMax X.K) := by
  intro Z t x S σ H φ Q s r p
  unfold fMaxL at p
  split at p
  · rename_i m h
    obtain ⟨ns, h0, h3⟩ := Option.bind_eq_some_iff.mp h
    obtain ⟨ws, h1, h2⟩ := Option.bind_eq_some_iff.mp h0
    obtain ⟨a, xs, rfl, hs, hr⟩ := seqLOf_ok s r h1
    have e := intsOf_ok h2 hr
    subst e
    cases ns with
    | nil => cases h3
    | cons i is =>
      simp only [greatestOf, Option.some.injEq] at h3
      subst h3
      obtain ⟨q1, q2, q3⟩ := foldl_max_ge is i
      refine ⟨a, i :: is, rfl, hs, by simp, fun m hm hle => ?_⟩
      have e : m = is.foldl max i := by
        have z1 := hle (is.foldl max i) (by rcases q3 with q | q; rw [q]; exact List.mem_cons_self; exact List.mem_cons_of_mem _ q)
        have z2 : m ≤ is.foldl max i := by rcases List.mem_cons.mp hm with rfl | hm; exact q1; exact q2 m hm
        omega
      rw [e]
      exact fin_int p s
  · exact p.elim
def fList (t : T) (S : Store) : R T := match contOf t S with
  | some ws => .ok (.l ws) S
  | none => .no
theorem c_list : C1 X fList (fun xs H Q => ∃ p ys, xs = [.ref p] ∧ (SqL X.K H p ys ∨ SqT X.K H p ys) ∧ ∀ l, H l = none → Q (.ref l) (upd H l (.lst ys))) := by
  intro Z t x S σ H φ Q s r p
  unfold fList at p
  split at p
  · rename_i ws hws
    obtain ⟨a, xs, rfl, hs, hr⟩ := contOf_ok s r hws
    exact ⟨a, xs, rfl, hs, fun l hl => fin_newL p s hr hl⟩
  · exact p.elim
def fTuple (t : T) (S : Store) : R T := match contOf t S with
  | some ws => .ok (.w (.tup ws)) S
  | none => .no
theorem c_tuple : C1 X fTuple (fun xs H Q => ∃ p ys, xs = [.ref p] ∧ ((SqL X.K H p ys ∧ ∀ l, H l = none → Q (.ref l) (upd H l (.tup ys))) ∨ (SqT X.K H p ys ∧ Q (.ref p) H))) := by
  intro Z t x S σ H φ Q s r p
  unfold fTuple at p
  split at p
  · rename_i ws hws
    obtain ⟨a, xs, rfl, hs, hr⟩ := contOf_ok s r hws
    refine ⟨a, xs, rfl, ?_⟩
    rcases hs with hs | hs
    · exact .inl ⟨hs, fun l hl => fin_newT p s hr hl⟩
    · exact .inr ⟨hs, fin_tup p s hs hr⟩
  · exact p.elim
end
end Ev

set_option Elab.async false
set_option linter.all false
set_option maxRecDepth 100000
/-! Ev5: statements, targets, defs and their calls. -/
namespace Ev
open PySem PySem.Spec PyProof.Rows L2

/-! ### from expressions to statements -/
section
variable {α β : Type} {rep : RepT α β} {g : Gd} {Z : WX} {σ : St} {H : Hp} {φ : List Addr} {S0 : Store} {ρ : Rho}
theorem PostS.thenS {r : R α} {k : α → Store → RS} {D : Ends} (h : PostS g Z H φ (r.thenS ρ k) D) (s : SRep g H φ S0) (e : ERep g H φ ρ σ) :
    PostG rep g Z σ H φ r fun v H1 => ∃ t S1 φ1, Ext H φ H1 φ1 ∧ SRep g H1 φ1 S1 ∧ rep H H1 φ1 t v ∧ PostS g Z H1 φ1 (k t S1) D := by
  cases r with
  | ok t S => exact fun v H' φ' e1 s1 r => ⟨t, S, φ', e1, s1, r, PostS.later (r := k t S) h e1⟩
  | exc c ns ws S => exact fun C d H' φ' e1 s1 m x => h C d σ H' φ' e1 s1 (e.mono s e1) m x
  | no => exact h
/-- settle, then a statement -/
theorem PostS.settle {r : R T} {k : W → Store → RS} {D : Ends} (h : PostS g Z H φ (r.thenS ρ fun t S1 => (settle t S1).thenS ρ k) D) (s : SRep g H φ S0) (e : ERep g H φ ρ σ) :
    PostG (repE g) g Z σ H φ r fun v H1 => ∃ x S1 φ1, Ext H φ H1 φ1 ∧ SRep g H1 φ1 S1 ∧ Rep g H1 φ1 x v ∧ PostS g Z H1 φ1 (k x S1) D := by
  have h1 : PostS g Z H φ ((r.bind fun t S1 => (Ev.settle t S1).bind fun w S2 => .ok w S2).thenS ρ k) D := by
    cases r with
    | ok t S => cases t <;> exact h
    | exc c ns ws S => exact h
    | no => exact h
  have h2 := PostS.thenS (rep := repV g) h1 s e
  refine (PostG.settle h2).mono fun v H1 ⟨x, S1, φ1, e1, s1, r1, p1⟩ => ?_
  obtain ⟨x', S2, φ2, e2, s2, r2, p2⟩ := p1.now s1 r1
  exact ⟨x', S2, φ2, e2, s2, r2, p2⟩
theorem PostS.seq {r : RS} {k : Rho → Store → RS} {D : Ends} (h : PostS g Z H φ (r.seq k) D) : PostS g Z H φ r { D with nx := fun σ' H' => ∃ ρ' S' φ', Ext H φ H' φ' ∧ SRep g H' φ' S' ∧ ERep g H' φ' ρ' σ' ∧ PostS g Z H' φ' (k ρ' S') D } := by
  cases r with
  | next ρ' S' => exact fun σ' H' φ' e s r => ⟨ρ', S', φ', e, s, r, PostS.later (r := k ρ' S') h e⟩
  | ret t S => exact h
  | brk ρ S => exact h
  | cnt ρ S => exact h
  | exc c ns ws ρ S => exact h
  | no => exact h
end
/-! ### combinators -/
def s_nil : MS := fun ρ S => .next ρ S
def s_seq (a b : MS) : MS := fun ρ S => (a ρ S).seq b
def s_set (i : Nat) (m : ME) : MS := fun ρ S => (m ρ S).thenS ρ fun t S1 => (settle t S1).thenS ρ fun w S2 => .next (ρ.set i (some w)) S2
def s_expr (m : ME) : MS := fun ρ S => (m ρ S).thenS ρ fun _ S1 => .next ρ S1
def s_ret (m : ME) : MS := fun ρ S => (m ρ S).thenS ρ fun t S1 => .ret t S1
def s_retN : MS := fun _ S => .ret (.w .non) S
def s_if (c : MT) (a b : MS) : MS := fun ρ S => (c ρ S).thenS ρ fun k S1 => if k = true then a ρ S1 else b ρ S1
def s_brk : MS := fun ρ S => .brk ρ S
def s_cnt : MS := fun ρ S => .cnt ρ S
section
variable {X : Cx} {Z : WX} {st : Stmt} {rest : List Stmt} {a b : MS} {e c : Expr} {me : ME} {mc : MT} {pos : Pos}
theorem ss_nil : SSs X Z [] s_nil := pss_nil.imp fun D σ H h => by
  obtain ⟨φ, S, ρ, s, e, p⟩ := h
  exact p σ H φ (.refl _ _) s e
theorem ss_cons (h : SS X Z st a) (h2 : SSs X Z rest b) : SSs X Z (st :: rest) (s_seq a b) := (pss_cons h h2).imp fun D σ H h => by
  obtain ⟨φ, S, ρ, s, e, p⟩ := h
  refine ⟨φ, S, ρ, s, e, ?_⟩
  have q := PostS.seq p
  cases hr : a ρ S with
  | next ρ' S' =>
    rw [hr] at q
    intro σ' H' φ' e1 s1 r1
    obtain ⟨ρ2, S2, φ2, e2, s2, r2, p2⟩ := q σ' H' φ' e1 s1 r1
    exact ⟨φ2, S2, ρ2, s2, r2, p2⟩
  | ret t S => rw [hr] at q; exact q
  | brk ρ S => rw [hr] at q; exact q
  | cnt ρ S => rw [hr] at q; exact q
  | exc c ns ws ρ S => rw [hr] at q; exact q
  | no => rw [hr] at q; exact q
theorem ss_one (h : SS X Z st a) : SSs X Z [st] a := pss_one h
theorem ss_pass : SS X Z (.Pass pos) s_nil := ps_pass.imp fun D σ H h => by
  obtain ⟨φ, S, ρ, s, e, p⟩ := h
  exact p σ H φ (.refl _ _) s e
theorem ss_brk : SS X Z (.Break pos) s_brk := ps_break.imp fun D σ H h => by
  obtain ⟨φ, S, ρ, s, e, p⟩ := h
  exact p σ H φ (.refl _ _) s e
theorem ss_cnt : SS X Z (.Continue pos) s_cnt := ps_continue.imp fun D σ H h => by
  obtain ⟨φ, S, ρ, s, e, p⟩ := h
  exact p σ H φ (.refl _ _) s e
theorem ss_expr (h : SE X Z e me) (hs : swapsWith e none pos.line X.env = pure false := by rfl) : SS X Z (.Expr e pos) (s_expr me) := (ps_expr h hs).imp fun D σ H h => by
  obtain ⟨φ, S, ρ, s, e, p⟩ := h
  refine ⟨φ, S, ρ, s, e, (PostS.thenS (rep := repE (gd X)) p s e).mono fun x H1 ⟨t, S1, φ1, e1, s1, r1, p1⟩ => ?_⟩
  exact p1 σ H1 φ1 (.refl _ _) s1 (e.mono s e1)
theorem ss_ret (h : SE X Z e me) : SS X Z (.Return (some e) pos) (s_ret me) := (ps_ret h).imp fun D σ H h => by
  obtain ⟨φ, S, ρ, s, e, p⟩ := h
  refine ⟨φ, S, ρ, s, e, ?_⟩
  cases hr : me ρ S with
  | ok t S1 =>
    have p' : PostS (gd X) Z H φ (.ret t S1) D := by
      have p0 : PostS (gd X) Z H φ ((me ρ S).thenS ρ fun t S1 => .ret t S1) D := p
      rw [hr] at p0
      exact p0
    exact p'
  | exc c ns ws S1 =>
    have p' : PostS (gd X) Z H φ (.exc c ns ws ρ S1) D := by
      have p0 : PostS (gd X) Z H φ ((me ρ S).thenS ρ fun t S1 => .ret t S1) D := p
      rw [hr] at p0
      exact p0
    exact fun C d H' φ' e1 s1 m x => p' C d σ H' φ' e1 s1 (e.mono s e1) m x
  | no =>
    have p0 : PostS (gd X) Z H φ ((me ρ S).thenS ρ fun t S1 => .ret t S1) D := p
    rw [hr] at p0
    exact p0
theorem ss_retN : SS X Z (.Return none pos) s_retN := ps_retN.imp fun D σ H h => by
  obtain ⟨φ, S, ρ, s, e, p⟩ := h
  exact p .non H φ (.refl _ _) s ⟨by simp only [TRep, Rep], trivial⟩
theorem ss_if {u v : List Stmt} (hc : ST X Z c mc) (ha : SSs X Z u a) (hb : SSs X Z v b) : SS X Z (.If c u v pos) (s_if mc a b) := (ps_if hc ha hb).imp fun D σ H h => by
  obtain ⟨φ, S, ρ, s, e, p⟩ := h
  refine ⟨φ, S, ρ, s, e, (PostS.thenS (rep := repT) p s e).mono fun k H1 ⟨t, S1, φ1, e1, s1, r1, p1⟩ => ?_⟩
  obtain rfl : t = k := r1
  cases t with
  | true => exact ⟨φ1, S1, ρ, s1, e.mono s e1, p1⟩
  | false => exact ⟨φ1, S1, ρ, s1, e.mono s e1, p1⟩
theorem ss_set {i : Nat} {x : Str} {pos' : Pos} (hN : X.N.Nodup) (hi : X.N[i]? = some x) (hx : Loc X.env.scope x) (he : SE X Z e me) (hs : swapsWith e (some (.Name x pos')) pos.line X.env = pure false := by rfl) (hf : X.fn x = true ∨ X.env.scope.names.lookup x = some .local := by first | exact .inl rfl | exact .inr rfl | assumption) :
    SS X Z (.Assign [.Name x pos'] e pos) (s_set i me) := (ps_set hN hi hx he hs hf).imp fun D σ H h => by
  obtain ⟨φ, S, ρ, s, e, p⟩ := h
  refine ⟨φ, S, ρ, s, e, (PostS.settle p s e).mono fun v H1 ⟨w, S1, φ1, e1, s1, r1, p1⟩ => ?_⟩
  exact p1 _ H1 φ1 (.refl _ _) s1 ((e.mono s e1).set r1.sl i)
end
/-! ### targets -/
abbrev MG := W → Rho → Store → R Rho
abbrev MGs := List W → Rho → Store → R Rho
/-- slots unlike at ts alone -/
def But (ts : List Nat) (σ σ' : St) : Prop := σ'.length = σ.length ∧ ∀ i, i ∉ ts → σ'[i]? = σ[i]?
theorem But.refl {ts : List Nat} {σ : St} : But ts σ σ := ⟨rfl, fun _ _ => rfl⟩
theorem But.trans {ts us : List Nat} {σ σ1 σ2 : St} (a : But ts σ σ1) (b : But us σ1 σ2) : But (ts ++ us) σ σ2 :=
  ⟨b.1.trans a.1, fun i h => (b.2 i fun z => h (List.mem_append_right _ z)).trans (a.2 i fun z => h (List.mem_append_left _ z))⟩
theorem But.set {i : Nat} {σ : St} {v : Option V} : But [i] σ (σ.set i v) := ⟨by simp, fun j h => List.getElem?_set_ne (fun z => h (by simp [z]))⟩
abbrev repN (g : Gd) (ts : List Nat) (σ : St) : RepT Rho St := fun _ H φ ρ σ' => ERep g H φ ρ σ' ∧ But ts σ σ'
instance {g : Gd} {ts : List Nat} {σ : St} : Anti (repN g ts σ) := ⟨fun _ _ h => h⟩
def lGg (g : Gd) (Z : WX) (ts : List Nat) (m : MG) : TG := fun v σ H Q => ∃ φ S ρ w, SRep g H φ S ∧ ERep g H φ ρ σ ∧ Rep g H φ w v ∧ PostG (repN g ts σ) g Z σ H φ (m w ρ S) Q
def lGsg (g : Gd) (Z : WX) (ts : List Nat) (m : MGs) : TGs := fun vs σ H Q => ∃ φ S ρ ws, SRep g H φ S ∧ ERep g H φ ρ σ ∧ Reps g H φ ws vs ∧ PostG (repN g ts σ) g Z σ H φ (m ws ρ S) Q
abbrev lG (X : Cx) (Z : WX) (ts : List Nat) (m : MG) : TG := lGg (gd X) Z ts m
abbrev lGs (X : Cx) (Z : WX) (ts : List Nat) (m : MGs) : TGs := lGsg (gd X) Z ts m
/-- in targets nothing is raised (the slots may have changed within); ts: the slots that are stored -/
abbrev SG (X : Cx) (Z : WX) (ts : List Nat) (e : Expr) (m : MG) : Prop := PG X e (lG X Z ts m)
abbrev SGs (X : Cx) (Z : WX) (ts : List Nat) (es : List Expr) (m : MGs) : Prop := PGs X es (lGs X Z ts m)
theorem _root_.L2.PG.imp {X : Cx} {e : Expr} {t t' : TG} (h : PG X e t) (i : ∀ v σ H Q, t' v σ H Q → t v σ H Q) : PG X e t' := ⟨fun pins s σ H v u Q I r q => h.run pins s σ H v u Q I r (i _ _ _ _ q)⟩
theorem _root_.L2.PGs.imp {X : Cx} {e : List Expr} {t t' : TGs} (h : PGs X e t) (i : ∀ v σ H Q, t' v σ H Q → t v σ H Q) : PGs X e t' := ⟨fun pins s σ H v u Q I r q => h.run pins s σ H v u Q I r (i _ _ _ _ q)⟩
def g_name (i : Nat) : MG := fun w ρ S => .ok (ρ.set i (some w)) S
def gs_nil : MGs := fun ws ρ S => match ws with
  | [] => .ok ρ S
  | _ => .no
/-- what a run cannot raise -/
def R.calm {α : Type} (r : R α) : R α := match r with
  | .ok a S => .ok a S
  | _ => .no
@[simp] theorem R.calm_ok {α : Type} (a : α) (S : Store) : (R.ok a S).calm = .ok a S := rfl
def gs_cons (m : MG) (r : MGs) : MGs := fun ws ρ S => match ws with
  | [] => .no
  | w :: ws => (m w ρ S).calm.bind fun ρ1 S1 => (r ws ρ1 S1).calm
def g_tup (n : Nat) (m : MGs) : MG := fun w ρ S => match w with
  | .tup ws => if ws.length = n then m ws ρ S else .no
  | _ => .no
section
variable {X : Cx} {Z : WX} {e : Expr} {es : List Expr} {m : MG} {r : MGs} {pos : Pos} {ts us : List Nat}
theorem sg_name {i : Nat} {x : Str} (hN : X.N.Nodup) (hi : X.N[i]? = some x) (hx : Loc X.env.scope x) (hf : X.fn x = true ∨ X.env.scope.names.lookup x = some .local := by first | exact .inl rfl | exact .inr rfl | assumption) : SG X Z [i] (.Name x pos) (g_name i) := (pg_name hN hi hx hf).imp fun v σ H Q h => by
  obtain ⟨φ, S, ρ, w, s, e, rw', p⟩ := h
  exact p.now s ⟨e.set rw'.sl i, .set⟩
theorem sgs_nil : SGs X Z [] [] gs_nil := pgs_nil.imp fun v σ H Q h => by
  obtain ⟨φ, S, ρ, ws, s, e, rw', p⟩ := h
  cases ws with
  | nil => simp only [Reps] at rw'; exact ⟨rw', p.now s ⟨e, .refl⟩⟩
  | cons w ws => exact p.elim
theorem PostG.calm {α β : Type} {rep : RepT α β} {g : Gd} {Z Z' : WX} {σ σ' : St} {H : Hp} {φ : List Addr} {r : R α} {Q : β → Hp → Prop} (h : PostG rep g Z σ H φ r.calm Q) : PostG rep g Z' σ' H φ r Q := by
  cases r with
  | ok t S => exact h
  | exc c ns ws S => exact h.elim
  | no => exact h.elim
theorem PostG.calm' {α β : Type} {rep : RepT α β} {g : Gd} {Z Z' : WX} {σ σ' : St} {H : Hp} {φ : List Addr} {r : R α} {Q : β → Hp → Prop} (h : PostG rep g Z σ H φ r.calm Q) : PostG rep g Z' σ' H φ r.calm Q := by
  cases r with
  | ok t S => exact h
  | exc c ns ws S => exact h.elim
  | no => exact h.elim
theorem PostG.repI {α β : Type} {rep rep' : RepT α β} {g : Gd} {Z : WX} {σ : St} {H : Hp} {φ : List Addr} {r : R α} {Q : β → Hp → Prop} (i : ∀ a b H' φ', rep H H' φ' a b → rep' H H' φ' a b) (h : PostG rep' g Z σ H φ r Q) : PostG rep g Z σ H φ r Q := by
  cases r with
  | ok t S => exact fun v H' φ' e s r => h v H' φ' e s (i _ _ _ _ r)
  | exc c ns ws S => exact h
  | no => exact h
theorem sgs_cons (h : SG X Z ts e m) (h2 : SGs X Z us es r) (hs : (assignEach (e :: es) X.env).map (·.2) = assign e X.env :: (assignEach es X.env).map (·.2) := by rfl) : SGs X Z (ts ++ us) (e :: es) (gs_cons m r) := (pgs_cons h h2 hs).imp fun vs σ H Q h => by
  obtain ⟨φ, S, ρ, ws, s, e, rw', p⟩ := h
  cases ws with
  | nil => exact p.elim
  | cons w ws =>
    simp only [Reps] at rw'
    obtain ⟨x, xs, rfl, q1, q2⟩ := rw'
    refine ⟨x, xs, rfl, φ, S, ρ, w, s, e, q1, ?_⟩
    have p1 := PostG.bind (rep := repN (gd X) ts σ) (show PostG (repN (gd X) (ts ++ us) σ) (gd X) Z σ H φ ((m w ρ S).calm.bind fun ρ1 S1 => (r ws ρ1 S1).calm) Q from p)
    refine PostG.calm (Z := Z) (σ := σ) (p1.mono fun σ1 H1 ⟨ρ1, S1, φ1, e1, s1, r1, p1⟩ => ?_)
    refine ⟨φ1, S1, ρ1, ws, s1, r1.1, Reps.mono s e1 _ _ q2, PostG.repI (fun ρ' σ' H' φ' q => ⟨q.1, r1.2.trans q.2⟩) (PostG.calm p1)⟩
theorem sg_tup {k : Nat} {n : Nat} (hc : X.calm = true) (h : SGs X Z ts es r) (hn : (assignEach es X.env).length = n := by rfl) (hst : (assignEach es X.env).findIdx? (·.1) = none := by rfl) : SG X Z ts (.Tuple es k pos) (g_tup n r) := (pg_tup hc h hn hst).imp fun v σ H Q h => by
  obtain ⟨φ, S, ρ, w, s, e, rw', p⟩ := h
  cases w with
  | tup ws =>
    simp only [Rep] at rw'
    obtain ⟨a, xs, rfl, q1, q2⟩ := rw'
    have p : PostG (repN (gd X) ts σ) (gd X) Z σ H φ (if ws.length = n then r ws ρ S else .no) Q := p
    split at p
    · rename_i hl
      exact ⟨a, xs, rfl, q1, by rw [← q2.length]; exact hl, φ, S, ρ, ws, s, e, q2, p⟩
    · exact p.elim
  | _ => exact p.elim
/-- target = value -/
def s_asg (m : ME) (g : MG) : MS := fun ρ S => (m ρ S).thenS ρ fun t S1 => (settle t S1).thenS ρ fun w S2 => (g w ρ S2).calm.thenS ρ fun ρ' S3 => .next ρ' S3
theorem ss_asg {tg : Expr} {me : ME} (he : SE X Z e me) (hg : SG X Z ts tg m) (hs : swapsWithSole [tg] e pos.line X.env = pure false := by rfl) (hw : swappedStores [tg] e X.env = pure none := by rfl)
    (h1 : (assignEach [tg] X.env).map (·.2) = [assign tg X.env] := by rfl) : SS X Z (.Assign [tg] e pos) (s_asg me m) := (ps_asg he hg hs hw h1).imp fun D σ H h => by
  obtain ⟨φ, S, ρ, s, e, p⟩ := h
  refine ⟨φ, S, ρ, s, e, (PostS.settle p s e).mono fun v H1 ⟨w, S1, φ1, e1, s1, r1, p1⟩ => ?_⟩
  refine ⟨φ1, S1, ρ, w, s1, e.mono s e1, r1, ?_⟩
  refine PostG.calm (Z := Z) (σ := σ) ((PostS.thenS (rep := repN (gd X) ts σ) p1 s1 (e.mono s e1)).mono fun σ2 H2 ⟨ρ2, S2, φ2, e2, s2, r2, p2⟩ => ?_)
  exact p2 σ2 H2 φ2 (.refl _ _) s2 r2.1
/-- o[i] = .. -/
def wSetL (t u : T) (w : W) (S : Store) : R Unit :=
  match t, u with
  | .w (.loc n), .w (.int k) => match S[n]? with
    | some (.lst ws) => match ixN ws.length k with
      | some j => .ok () (S.set n (.lst (ws.set j w)))
      | none => .no
    | _ => .no
  | _, _ => .no
def g_sub (o i : ME) : MG := fun w ρ S => (o ρ S).bind fun t S1 => (i ρ S1).bind fun u S2 => (wSetL t u w S2).bind fun _ S3 => .ok ρ S3
theorem sg_sub {o i : Expr} {mo mi : ME} (ho : SE X Z o mo) (hi : SE X Z i mi)
    (ha : ∀ v, assign (.Subscript o i pos) X.env v = (do
      let ov ← holding [v] (eval o X.env)
      let iv ← holding [v, ov] (eval i X.env)
      standAt pos
      holding [v, ov, iv] (setItem ov iv v)
      release [v, ov, iv] []) := by intro _; rfl) : SG X Z [] (.Subscript o i pos) (g_sub mo mi) := (pg_sub ho hi set_list ha).imp fun v σ H Q h => by
  obtain ⟨φ, S, ρ, w, s, e, rw', p⟩ := h
  refine ⟨φ, S, ρ, s, e, (PostG.bind (rep := repE (gd X)) p).mono fun x H1 ⟨t, S1, φ1, e1, s1, r1, p1⟩ => ?_⟩
  refine ⟨φ1, S1, ρ, s1, e.mono s e1, (PostG.bind (rep := repE (gd X)) p1).mono fun y H2 ⟨u, S2, φ2, e2, s2, r2, p2⟩ => ?_⟩
  have r1 := r1.1.mono s1 e2
  unfold wSetL at p2
  split at p2
  · skip
    cases rep_int r2.1
    split at p2
    · rename_i ws hws
      obtain ⟨a, xs, q1, q2, q3⟩ := s2.lst hws
      have ex : x = .ref a := loc_rep (g := gd X) (H := H2) r1 q1
      split at p2
      · rename_i j hj
        refine ⟨a, xs, _, j, ex, rfl, q2, by rw [← q3.length]; exact hj, ?_⟩
        have rw2 : Rep (gd X) H2 φ2 w v := Rep.mono s (e1.trans e2) w v rw'
        have ee := s2.putE q1 (.lst (xs.set j v))
        have ss := s2.putS (o := .lst (xs.set j v)) (u := .lst (ws.set j w)) q1 ⟨_, upd_same, Reps.mono s2 ee _ _ (q3.set rw2 j)⟩
        exact PostG.at_ (rep := repN (gd X) [] σ) p2 ee ss ⟨((e.mono s e1).mono s1 e2).mono s2 ee, .refl⟩
      · exact p2.elim
    · exact p2.elim
  · exact p2.elim
end
/-! ### a def's promise -/
structure SlReps (g : Gd) (H : Hp) (φ : List Addr) (ws : List W) (vs : List V) : Prop where
  len : ws.length = vs.length
  at_ : ∀ (i : Nat) (w : W), ws[i]? = some w → ∃ v, vs[i]? = some v ∧ SlRep g H φ w v
theorem Reps.sl {g : Gd} {H : Hp} {φ : List Addr} {ws : List W} {vs : List V} (h : Reps g H φ ws vs) : SlReps g H φ ws vs :=
  ⟨h.length, fun i w q => let ⟨v, a, b⟩ := h.get q; ⟨v, a, b.sl⟩⟩
def spOf (g : Gd) (n : Nat) (mf : List W → Store → R T) : Sp := fun vs H Q E => vs.length = n ∧ ∃ φ S ws, SRep g H φ S ∧ SlReps g H φ ws vs ∧ PostG (repE g) g (fun C d _ H' => E C d H') [] H φ (mf ws S) Q
/-! ### the end of a def -/
section
variable {g : Gd} {H H' : Hp} {φ φ' : List Addr}
mutual
theorem Rep.lb : ∀ (w : W) (v : V), Rep g H φ w v → w.lb φ.length = true
  | .non, _, _ => rfl
  | .bl _, _, _ => rfl
  | .int _, _, _ => rfl
  | .str _, _, _ => rfl
  | .tup ws, v, h => by
    simp only [Rep] at h
    obtain ⟨a, xs, _, _, h3⟩ := h
    simp only [W.lb]
    exact Reps.lb ws xs h3
  | .loc n, v, h => by
    simp only [Rep] at h
    obtain ⟨a, h1, _⟩ := h
    simp only [W.lb, decide_eq_true_eq]
    exact (List.getElem?_eq_some_iff.mp h1).1
  | .rol ws, v, h => by
    simp only [Rep] at h
    obtain ⟨a, xs, _, _, h3⟩ := h
    simp only [W.lb]
    exact Reps.lb ws xs h3
  | .exn c ns ws, v, h => by simp only [Rep] at h
theorem Reps.lb : ∀ (ws : List W) (xs : List V), Reps g H φ ws xs → W.lbs φ.length ws = true
  | [], _, _ => rfl
  | w :: ws, xs, h => by
    simp only [Reps] at h
    obtain ⟨x, r, _, h2, h3⟩ := h
    simp only [W.lbs, Bool.and_eq_true]
    exact ⟨Rep.lb w x h2, Reps.lb ws r h3⟩
end
mutual
theorem Rep.down (e : φ <+: φ') : ∀ (w : W) (v : V), w.lb φ.length = true → Rep g H φ' w v → Rep g H φ w v
  | .non, _, _, h => by simpa only [Rep] using h
  | .bl _, _, _, h => by simpa only [Rep] using h
  | .int _, _, _, h => by simpa only [Rep] using h
  | .str _, _, _, h => by simpa only [Rep] using h
  | .tup ws, v, q, h => by
    simp only [Rep] at h ⊢
    obtain ⟨a, xs, h1, h2, h3⟩ := h
    exact ⟨a, xs, h1, h2, Reps.down e ws xs (by simpa only [W.lb] using q) h3⟩
  | .loc n, v, q, h => by
    simp only [Rep] at h ⊢
    simp only [W.lb, decide_eq_true_eq] at q
    obtain ⟨a, h1, h2⟩ := h
    refine ⟨a, ?_, h2⟩
    obtain ⟨t, rfl⟩ := e
    rw [List.getElem?_append_left q] at h1
    exact h1
  | .rol ws, v, q, h => by
    simp only [Rep] at h ⊢
    obtain ⟨a, xs, h1, h2, h3⟩ := h
    exact ⟨a, xs, h1, h2, Reps.down e ws xs (by simpa only [W.lb] using q) h3⟩
  | .exn c ns ws, v, _, h => by simp only [Rep] at h
theorem Reps.down (e : φ <+: φ') : ∀ (ws : List W) (xs : List V), W.lbs φ.length ws = true → Reps g H φ' ws xs → Reps g H φ ws xs
  | [], _, _, h => by simpa only [Reps] using h
  | w :: ws, xs, q, h => by
    simp only [Reps] at h ⊢
    simp only [W.lbs, Bool.and_eq_true] at q
    obtain ⟨x, r, h1, h2, h3⟩ := h
    exact ⟨x, r, h1, Rep.down e w x q.1 h2, Reps.down e ws r q.2 h3⟩
end
theorem ORep.down (e : φ <+: φ') {a : Addr} {o : LO} (q : o.lb φ.length = true) (h : ORep g H φ' a o) : ORep g H φ a o := by
  cases o with
  | lst ws => obtain ⟨xs, h1, h2⟩ := h; exact ⟨xs, h1, Reps.down e _ _ q h2⟩
  | ins c ns ws => obtain ⟨C, dx, xs, h1, h2, h3, h4⟩ := h; exact ⟨C, dx, xs, h1, h2, h3, Reps.down e _ _ q h4⟩
  | dic kvs =>
    simp only [LO.lb, Bool.and_eq_true] at q
    rcases h with ⟨ks, xs, h1, h2, h3, h4⟩ | ⟨ks, xs, h1, h2, h3, h4⟩
    · exact .inl ⟨ks, xs, h1, h2, h3, Reps.down e _ _ q.2 h4⟩
    · exact .inr ⟨ks, xs, h1, h2, h3, Reps.down e _ _ q.2 h4⟩
  | dicL kvs =>
    simp only [LO.lb, Bool.and_eq_true] at q
    obtain ⟨o, ⟨ks, xs, h1, h2, h3, h4⟩ | ⟨ks, xs, h1, h2, h3, h4⟩⟩ := h
    · exact ⟨o, .inl ⟨ks, xs, h1, h2, h3, Reps.down e _ _ q.2 h4⟩⟩
    · exact ⟨o, .inr ⟨ks, xs, h1, h2, h3, Reps.down e _ _ q.2 h4⟩⟩
theorem lbs_kW (n : Nat) : ∀ ks : List Key, W.lbs n (ks.map kW) = true
  | [] => rfl
  | .inl k :: ks => by simp only [List.map_cons, kW, W.lbs, W.lb, Bool.true_and]; exact lbs_kW n ks
  | .inr k :: ks => by simp only [List.map_cons, kW, W.lbs, W.lb, Bool.true_and]; exact lbs_kW n ks
theorem lbs_kT (n : Nat) : ∀ ks : List (List Key), W.lbs n (ks.map fun k => W.tup (k.map kW)) = true
  | [] => rfl
  | k :: ks => by simp only [List.map_cons, W.lbs, W.lb, Bool.and_eq_true]; exact ⟨lbs_kW n k, lbs_kT n ks⟩
theorem ORep.lb {a : Addr} {o : LO} (h : ORep g H φ a o) : o.lb φ.length = true := by
  cases o with
  | lst ws => obtain ⟨xs, h1, h2⟩ := h; exact Reps.lb _ _ h2
  | ins c ns ws => obtain ⟨C, dx, xs, h1, h2, h3, h4⟩ := h; exact Reps.lb _ _ h4
  | dic kvs =>
    simp only [LO.lb, Bool.and_eq_true]
    rcases h with ⟨ks, xs, h1, h2, h3, h4⟩ | ⟨ks, xs, h1, h2, h3, h4⟩
    · rw [h2]; exact ⟨lbs_kW _ _, Reps.lb _ _ h4⟩
    · rw [h2]; exact ⟨lbs_kT _ _, Reps.lb _ _ h4⟩
  | dicL kvs =>
    simp only [LO.lb, Bool.and_eq_true]
    obtain ⟨o, ⟨ks, xs, h1, h2, h3, h4⟩ | ⟨ks, xs, h1, h2, h3, h4⟩⟩ := h
    · rw [h2]; exact ⟨lbs_kW _ _, Reps.lb _ _ h4⟩
    · rw [h2]; exact ⟨lbs_kT _ _, Reps.lb _ _ h4⟩
/-- what stood at the entry, behind the def -/
theorem back {S S' : Store} (s : SRep g H φ S) (e : Ext H φ H' φ') (s' : SRep g H' φ' S') (k : Kept S S') : Ext H φ H' φ ∧ SRep g H' φ (S'.take S.length) := by
  refine ⟨⟨List.prefix_refl _, e.keep, fun _ h => .inl h⟩, ⟨by rw [List.length_take]; have := k.1; have := s.len; omega, s.nd, fun i a o h1 h2 => ?_⟩⟩
  have hi : i < φ.length := (List.getElem?_eq_some_iff.mp h1).1
  have hi2 : i < S.length := by rw [← s.len]; exact hi
  rw [List.getElem?_take_of_lt hi2] at h2
  have h1' := e.get h1
  have q := s'.at_ i a o h1' h2
  refine ORep.down e.pre ?_ q
  rcases k.2 i hi2 with z | ⟨o', z, zb⟩
  · rw [z] at h2
    exact (s.at_ i a o h1 h2).lb
  · rw [z] at h2; cases h2
    rw [s.len]; exact zb
theorem gc_ok {Z : WX} {σ : St} {S S' : Store} {t : T} {v : V} {Q : VK} (s : SRep g H φ S) (p : PostG (repE g) g Z σ H φ (gc S t S') Q) (e : Ext H φ H' φ') (s' : SRep g H' φ' S') (r : TRepF g H H' φ' t v) : Q v H' := by
  unfold gc at p
  split at p
  · rename_i hk
    obtain ⟨k, hb⟩ := hk
    obtain ⟨e2, s2⟩ := back s e s' k
    refine p v H' φ e2 s2 ?_
    have whole : t.lb S.length = true → TRepF g H H' φ t v := fun q => by
      cases t with
      | w x =>
        refine ⟨Rep.down e.pre x v (by rw [s.len]; exact q) r.1, trivial⟩
      | l ws =>
        obtain ⟨⟨a, xs, h1, h2, h3, h4⟩, h5⟩ := r
        exact ⟨⟨a, xs, h1, fun z => h2 (e.pre.subset z), h3, Reps.down e.pre ws xs (by rw [s.len]; exact q) h4⟩, h5⟩
    cases t with
    | l ws => exact whole hb
    | w x =>
      cases x with
      | loc m =>
        by_cases hm : S.length ≤ m
        · cases hs : S'[m]? with
          | none =>
            have e0 : T.open S.length S' (.w (.loc m)) = .w (.loc m) := by simp only [T.open, if_pos hm, hs]
            rw [e0] at hb ⊢
            exact whole hb
          | some o =>
            cases o with
            | lst ws =>
              have e0 : T.open S.length S' (.w (.loc m)) = .l ws := by simp only [T.open, if_pos hm, hs]
              rw [e0] at hb ⊢
              obtain ⟨a, xs, q1, q2, q3⟩ := s'.lst hs
              have ev : v = .ref a := loc_rep (g := g) (H := H') r.1 q1
              have na : a ∉ φ := fun z => by
                obtain ⟨i, hi, ei⟩ := List.getElem_of_mem z
                have q4 := e.get (List.getElem?_eq_some_iff.mpr ⟨hi, ei⟩)
                obtain ⟨b1, c1⟩ := List.getElem?_eq_some_iff.mp q1
                obtain ⟨b2, c2⟩ := List.getElem?_eq_some_iff.mp q4
                have := (List.getElem_inj s'.nd).mp (c1.trans c2.symm)
                rw [s.len] at hi
                omega
              refine ⟨⟨a, xs, ev, na, q2, Reps.down e.pre ws xs (by rw [s.len]; exact hb) q3⟩, fun b hb => ?_⟩
              rw [ev] at hb; cases hb
              exact (e.new a (List.mem_of_getElem? q1)).elim (fun z => absurd z na) id
            | _ =>
              have e0 : T.open S.length S' (.w (.loc m)) = .w (.loc m) := by simp only [T.open, if_pos hm, hs]
              rw [e0] at hb ⊢
              exact whole hb
        · have e0 : T.open S.length S' (.w (.loc m)) = .w (.loc m) := by simp only [T.open, if_neg hm]
          rw [e0] at hb ⊢
          exact whole hb
      | _ => exact whole hb
  · exact p v H' φ' e s' r
theorem gcx_ok {Z : WX} {σ : St} {S S' : Store} {c : Str} {ns : List Str} {ws : List W} {C : Addr} {d : Option Addr} {Q : VK} (s : SRep g H φ S) (p : PostG (repE g) g Z σ H φ (gcx S c ns ws S') Q) (e : Ext H φ H' φ') (s' : SRep g H' φ' S') (m : g.mg c = some (.ref C)) (r : XRep g H' φ' d ns ws) : Z (.ref C) d σ H' := by
  unfold gcx at p
  split at p
  · rename_i hk
    obtain ⟨k, hb⟩ := hk
    obtain ⟨e2, s2⟩ := back s e s' k
    refine p C d H' φ e2 s2 m ?_
    rcases r with r | ⟨dd, fs, xs, h1, h2, h3, h4⟩
    · exact .inl r
    · exact .inr ⟨dd, fs, xs, h1, h2, Reps.down e.pre ws xs (by rw [s.len]; exact hb) h3, h4⟩
  · exact p C d H' φ' e s' m r
end
theorem start_rep {g : Gd} {H : Hp} {φ : List Addr} {N : List Str} {ws : List W} {vs : List V} (r : SlReps g H φ ws vs) (h : vs.length ≤ N.length) : ERep g H φ (ws.map some ++ List.replicate (N.length - ws.length) none) (L2.start N vs) := by
  unfold L2.start
  refine ⟨by simp [r.len], fun i w q => ?_⟩
  by_cases hi : i < ws.length
  · rw [List.getElem?_append_left (by simpa using hi), List.getElem?_map, List.getElem?_eq_getElem hi] at q
    simp only [Option.map_some, Option.some.injEq] at q
    obtain ⟨v, h1, h2⟩ := r.at_ i w (by rw [List.getElem?_eq_getElem hi, q])
    exact ⟨v, by rw [List.getElem?_append_left (by simp [← r.len]; exact hi), List.getElem?_map, h1]; rfl, h2⟩
  · rw [List.getElem?_append_right (by simpa using hi), List.getElem?_replicate] at q
    split at q <;> cases q
/-- a body's run, from a def's promise -/
theorem body_run {X : Cx} {E : XK} {N : List Str} {n : Nat} {ms : MS} {vs : List V} {H : Hp} {Q : VK} (hn : n ≤ N.length) (h : spOf (gd X) n (mdef N.length ms) vs H Q E) :
    lS X (fun C d _ H' => E C d H') ms { nx := fun _ H' => Q .non H', rt := Q } (L2.start N vs) H := by
  obtain ⟨hl, φ, S, ws, s, r, p⟩ := h
  have hw : ws.length = n := r.len.trans hl
  refine ⟨φ, S, ws.map some ++ List.replicate (N.length - ws.length) none, s, start_rep r (by omega), ?_⟩
  unfold mdef at p
  generalize ms (ws.map some ++ List.replicate (N.length - ws.length) none) S = rs at p ⊢
  cases rs with
  | next ρ S' => exact fun σ' H' φ' e s' r' => gc_ok s p e s' ⟨by simp only [TRep, Rep], trivial⟩
  | ret t S' => exact fun v H' φ' e s' r' => gc_ok s p e s' r'
  | brk ρ S' => exact p.elim
  | cnt ρ S' => exact p.elim
  | exc c ns xs ρ S' => exact fun C d σ' H' φ' e s' r' m x => gcx_ok s p e s' m x
  | no => exact p.elim
section
variable {P : Program} {w : World} {K : PySem.W.Frag} {mg : Str → Option Value} {base : Heap}
abbrev gd0 (K : PySem.W.Frag) (mg : Str → Option Value) : Gd := ⟨K, mg, none⟩
/-- a def as a combinator's function -/
def Does (P : Program) (w : World) (K : PySem.W.Frag) (mg : Str → Option Value) (base : Heap) (k : Nat) (f : Addr) (fd : FuncData) (ps : List Str) (mf : List W → Store → R T) : Prop := FnOk P w K mg base (L2N.CX P w) k f fd ps (spOf (gd0 K mg) ps.length mf)
/-- THE RULE for a def -/
theorem does_of {x qual : Str} {st : Stmt} {f : Addr} {fd : FuncData} {N ps : List Str} {k : Nat} {ms : MS} (F : Fun K x qual st f fd) (S : FnScope N ps (defScope st))
    (hbody : ∀ (cdv : Value) (A : Around) (outer : List PySem.Env) (s : Shared) (H : Hp) (E : XK), Room k (A.deeper (envOfC qual (defScope st) s.heap.objs.size f cdv)) → L2N.Takes (cxOf (L2N.CX P w) P w K mg base N qual (defScope st) f cdv A outer s H E) (fun C d _ H' => E C d H') →
      SSs (cxOf (L2N.CX P w) P w K mg base N qual (defScope st) f cdv A outer s H E) (fun C d _ H' => E C d H') (defBody st) ms) : Does P w K mg base (k + 1) f fd ps (mdef N.length ms) := by
  obtain ⟨oc, od, kV, doc, pm, an, cdv, ct, osl, rfl, lk, hcd⟩ := F.ex
  have hpl : ps.length ≤ N.length := by have := congrArg List.length S.pre; rw [List.length_take] at this; omega
  refine fn_of lk hcd S (fun vs H Q E h => h.1) fun A outer s H vs Q E hr hsp => ?_
  exact ⟨_, hbody cdv A outer s H E hr (L2N.takes_of rfl rfl rfl rfl), body_run hpl hsp⟩
end
/-! ### calls -/
def m_call (n : Nat) (mf : List W → Store → R T) (m : MA) : ME := fun ρ S => (m ρ S).bind fun ws S1 => if ws.length = n then mf ws S1 else .no
section
variable {X : Cx} {Z : WX} {k : Nat} {f : Addr} {fd : FuncData} {ps : List Str} {x : Str} {p pos : Pos} {e : Expr} {es : List Expr} {m : MA} {mf : List W → Store → R T}
theorem call_imp (hc : X.calm = true) {σ : St} {H : Hp} {Q : VK} (h : lE X Z (m_call ps.length mf m) σ H Q) : tCallS (spOf (gd0 X.K X.mg) ps.length mf) (WE Z) (lA X Z m) σ H Q := by
  have eg : gd X = gd0 X.K X.mg := by simp only [gd, hc, if_true]
  obtain ⟨φ, S, ρ, s, e, p⟩ := h
  refine ⟨φ, S, ρ, s, e, (PostG.bind (rep := repA (gd X)) p).mono fun vs H1 ⟨ws, S1, φ1, e1, s1, r1, p1⟩ => ?_⟩
  split at p1
  · rename_i hl
    refine ⟨by rw [← r1.length]; exact hl, φ1, S1, ws, by rw [← eg]; exact s1, by rw [← eg]; exact r1.sl, ?_⟩
    rw [← eg]
    generalize mf ws S1 = r at p1 ⊢
    cases r with
    | ok t S2 => exact p1
    | exc c ns xs S2 => exact p1
    | no => exact p1
  · exact p1.elim
theorem se_call (F : Does X.prog X.w X.K X.mg X.base k f fd ps mf) (hr : Room k X.A) (hc : X.calm = true) (tk : L2N.Takes X Z) (hg : Gl X x) (hm : X.mg x = some (.ref f)) (hk : PySem.W.keepIn X.K (.ref f) = true) (hb : Binds X.K fd ps [])
    (ha : SA X Z (e :: es) m) (hdb : (x == ("__debug__" : Str)) = false := by decide) (he : starEach (e :: es) X.env = (false, eval e X.env) :: starEach es X.env := by rfl) (hpl : (backTo pos (starEach es X.env)).any (·.1) = false := by rfl) :
    SE X Z (.Call (.Name x p) (e :: es) [] pos) (m_call ps.length mf m) := (pe_callS F hr hg hm hk hb (fun σ => L2N.passAt tk σ) ha hdb he hpl).imp fun σ H Q h => call_imp hc h
end
end Ev

set_option Elab.async false
set_option linter.all false
set_option maxRecDepth 100000
/-! Ev6: what is walked, for, comprehensions, methods of lists. -/
namespace Ev
open PySem PySem.Spec PyProof.Rows L2

/-- an iterator gives these items, as long as chk holds of the store -/
structure ItOk (g : Gd) (J : It) (items : List W) (chk : Store → Prop) (H0 : Hp) (φ0 : List Addr) : Prop where
  go : ∀ H φ S i w, Ext H0 φ0 H φ → SRep g H φ S → chk S → items[i]? = some w → J.go i H ∧ ∀ x H', J.yld i H x H' → Ext H φ H' φ ∧ SRep g H' φ S ∧ Rep g H' φ w x
  stop : ∀ H φ S, Ext H0 φ0 H φ → SRep g H φ S → chk S → J.stop items.length H
structure Items where
  ws : List W
  chk : Store → Prop
abbrev MI := Rho → Store → R Items
abbrev repI (g : Gd) : RepT Items It := fun _ H φ m J => ItOk g J m.ws m.chk H φ
abbrev lI (g : Gd) (Z : WX) (m : MI) : TI := lift (repI g) g Z m
abbrev SI (X : Cx) (Z : WX) (tg : Expr) (iter : Expr) (m : MI) : Prop := PI X tg iter (lI (gd X) Z m)
theorem _root_.L2.PI.imp {X : Cx} {tg e : Expr} {t t' : TI} (h : PI X tg e t) (i : ∀ σ H R, t' σ H R → t σ H R) : PI X tg e t' := ⟨fun pins s σ H R I q => h.run pins s σ H R I (i _ _ _ q)⟩
theorem _root_.L2.PI.or {X : Cx} {tg e : Expr} {t t' : TI} (h : PI X tg e t) (h' : PI X tg e t') : PI X tg e (fun σ H R => t σ H R ∨ t' σ H R) :=
  ⟨fun pins s σ H R I q => q.elim (h.run pins s σ H R I) (h'.run pins s σ H R I)⟩
/-- the items of a value -/
def itemsOf (t : T) (S : Store) : Option Items := match t with
  | .w (.tup ws) => some ⟨ws, fun _ => True⟩
  | .w (.rol ws) => some ⟨ws, fun _ => True⟩
  | .l ws => some ⟨ws, fun _ => True⟩
  | .w (.loc n) => match S[n]? with
    | some (.lst ws) => some ⟨ws, fun S => S[n]? = some (.lst ws)⟩
    | _ => none
  | .w (.str z) => some ⟨z.cps.toList.map fun c => .str ⟨#[c]⟩, fun _ => True⟩
  | _ => none
def i_seq (m : ME) : MI := fun ρ S => (m ρ S).bind fun t S1 => match itemsOf t S1 with
  | some it => .ok it S1
  | none => .no
theorem ok_tup {g : Gd} {a : Addr} {xs : List V} {ws : List W} {H0 : Hp} {φ0 : List Addr} {S0 : Store} (s0 : SRep g H0 φ0 S0) (h : SqT g.K H0 a xs) (r : Reps g H0 φ0 ws xs) : ItOk g (Itt g.K a) ws (fun _ => True) H0 φ0 where
  go := fun H φ S i w e s _ hw => by
    obtain ⟨x, hx, rx⟩ := r.get hw
    refine ⟨⟨xs, x, sqT_mono s0 e h, hx⟩, fun y H' ⟨e1, hy⟩ => ?_⟩
    subst e1
    have := hy xs (sqT_mono s0 e h)
    rw [hx] at this; cases this
    exact ⟨.refl _ _, s, Rep.mono s0 e _ _ rx⟩
  stop := fun H φ S e s _ => ⟨xs, sqT_mono s0 e h, by rw [r.length]; exact Nat.le_refl _⟩
theorem ok_rol {g : Gd} {a : Addr} {xs : List V} {ws : List W} {H0 : Hp} {φ0 : List Addr} {S0 : Store} (s0 : SRep g H0 φ0 S0) (h : ∀ H φ, Ext H0 φ0 H φ → SqL g.K H a xs) (r : Reps g H0 φ0 ws xs) : ItOk g (Itl g.K a) ws (fun _ => True) H0 φ0 where
  go := fun H φ S i w e s _ hw => by
    obtain ⟨x, hx, rx⟩ := r.get hw
    refine ⟨⟨xs, x, h H φ e, hx⟩, fun y H' ⟨e1, hy⟩ => ?_⟩
    subst e1
    have := hy xs (h _ φ e)
    rw [hx] at this; cases this
    exact ⟨.refl _ _, s, Rep.mono s0 e _ _ rx⟩
  stop := fun H φ S e s _ => ⟨xs, h H φ e, by rw [r.length]; exact Nat.le_refl _⟩
theorem ok_loc {g : Gd} {n : Nat} {a : Addr} {ws : List W} {H0 : Hp} {φ0 : List Addr} (h : φ0[n]? = some a) : ItOk g (Itl g.K a) ws (fun S => S[n]? = some (.lst ws)) H0 φ0 where
  go := fun H φ S i w e s c hw => by
    obtain ⟨b, xs, q1, q2, q3⟩ := s.lst c
    have q1' := e.get h
    rw [q1'] at q1; cases q1
    obtain ⟨x, hx, rx⟩ := q3.get hw
    refine ⟨⟨xs, x, SqL.of q2, hx⟩, fun y H' ⟨e1, hy⟩ => ?_⟩
    subst e1
    have := hy xs (SqL.of q2)
    rw [hx] at this; cases this
    exact ⟨.refl _ _, s, rx⟩
  stop := fun H φ S e s c => by
    obtain ⟨b, xs, q1, q2, q3⟩ := s.lst c
    have q1' := e.get h
    rw [q1'] at q1; cases q1
    exact ⟨xs, SqL.of q2, by rw [q3.length]; exact Nat.le_refl _⟩
theorem ok_str {g : Gd} {z : Str} {H0 : Hp} {φ0 : List Addr} : ItOk g (Its z) (z.cps.toList.map fun c => W.str ⟨#[c]⟩) (fun _ => True) H0 φ0 where
  go := fun H φ S i w e s _ hw => by
    rw [List.getElem?_map] at hw
    have hi : i < z.cps.size := by
      cases q : z.cps.toList[i]? with
      | none => rw [q] at hw; cases hw
      | some c => simpa using (List.getElem?_eq_some_iff.mp q).1
    refine ⟨hi, fun x H' ⟨e1, c, hc, ex⟩ => ?_⟩
    subst e1; subst ex
    rw [show z.cps.toList[i]? = some c by simpa using hc] at hw
    cases hw
    exact ⟨.refl _ _, s, by simp only [Rep]⟩
  stop := fun H φ S e s _ => by
    show z.cps.size ≤ (z.cps.toList.map _).length
    simp
instance {g : Gd} : Anti (repI g) := ⟨fun _ _ h => h⟩
section
variable {X : Cx} {Z : WX} {tg a b : Expr} {ma mb : ME} {pos p : Pos}
def iDyn (K : PySem.W.Frag) (t : TE) : TI := fun σ H R => t σ H fun x H1 => (∃ a xs, x = .ref a ∧ SqL K H1 a xs ∧ R (Itl K a) H1) ∨ (∃ a xs, x = .ref a ∧ SqT K H1 a xs ∧ R (Itt K a) H1) ∨ (∃ z, x = .str z ∧ R (Its z) H1)
theorem pi_dyn {t : TE} (ha : PE X a t) : PI X tg a (iDyn X.K t) := by
  refine ⟨fun pins s σ H R I h => ?_⟩
  refine thn (ha.run pins s σ H _ I h) fun v s1 ⟨x, H1, I1, r1, q1⟩ => ?_
  rcases q1 with ⟨l, xs, e, hq, q⟩ | ⟨l, xs, e, hq, q⟩ | ⟨z, e, q⟩
  · subst e
    cases r1
    obtain ⟨its, rv, p, hz⟩ := I1.list hq
    refine wpAny_pyIter_list p.isList ?_
    refine ⟨s1.heap.objs.size, [s1.heap.objs.size], _, _, H1, rfl, I1.kept (t' := s1.toks) fun b o e => Heap.get?_push_of_some _ e, turn_list l _, ⟨_, Heap.get?_push_size _ rfl, rfl, rfl⟩, fun b hb => ?_, q⟩
    have e : b = s1.heap.objs.size := by simpa using hb
    subst e
    exact I1.fpOk (Nat.le_refl _) (I1.hok.fresh (Nat.le_refl _))
  · subst e
    cases r1
    obtain ⟨its, rv, p, hz⟩ := I1.tuple hq
    refine wpAny_pyIter_tuple (show s1.heap.IsTuple l its.toArray from p) ?_
    refine ⟨s1.heap.objs.size, [s1.heap.objs.size], _, _, H1, rfl, I1.kept (t' := s1.toks) fun b o e => Heap.get?_push_of_some _ e, turn_tuple l _, ⟨_, Heap.get?_push_size _ rfl, rfl, rfl⟩, fun b hb => ?_, q⟩
    have e : b = s1.heap.objs.size := by simpa using hb
    subst e
    exact I1.fpOk (Nat.le_refl _) (I1.hok.fresh (Nat.le_refl _))
  · subst e
    obtain ⟨t, rfl⟩ := r1
    cases ha : z.cps.all (· < 128)
    · exact wpAny_pyIter_wide ha (pi_one (tk := s1.toks) I1 _ (turn_str _ z t "str_iterator" (.inr rfl)) ⟨_, Heap.get?_push_size _ rfl, rfl, rfl⟩ q)
    · exact wpAny_pyIter_ascii ha (pi_one (tk := s1.toks) I1 _ (turn_str _ z t "str_ascii_iterator" (.inl rfl)) ⟨_, Heap.get?_push_size _ rfl, rfl, rfl⟩ q)
theorem items_ok {t : T} {x : V} {S : Store} {it : Items} {H : Hp} {φ : List Addr} {Rr : It → Hp → Prop} (s : SRep (gd X) H φ S) (r : TRep (gd X) H φ t x) (h : itemsOf t S = some it) (q : ∀ J, ItOk (gd X) J it.ws it.chk H φ → Rr J H) :
    (∃ a xs, x = .ref a ∧ SqL X.K H a xs ∧ Rr (Itl X.K a) H) ∨ (∃ a xs, x = .ref a ∧ SqT X.K H a xs ∧ Rr (Itt X.K a) H) ∨ (∃ z, x = .str z ∧ Rr (Its z) H) := by
  cases t with
  | l ws =>
    cases h
    obtain ⟨a, xs, rfl, q1, q2, q3⟩ := r
    refine .inl ⟨a, xs, rfl, SqL.of q2, q _ (ok_rol s (fun H' φ' e => SqL.of (e.keep _ _ q2 q1)) q3)⟩
  | w y =>
    cases y with
    | tup ws =>
      cases h
      simp only [TRep, Rep] at r
      obtain ⟨a, xs, rfl, q1, q2⟩ := r
      exact .inr (.inl ⟨a, xs, rfl, q1, q _ (ok_tup s q1 q2)⟩)
    | rol ws =>
      cases h
      simp only [TRep, Rep] at r
      obtain ⟨a, xs, rfl, q1, q2⟩ := r
      exact .inl ⟨a, xs, rfl, q1.sq, q _ (ok_rol s (fun H' φ' e => (roL_mono s e q1).sq) q2)⟩
    | loc n =>
      simp only [itemsOf] at h
      split at h
      · rename_i ws hn
        cases h
        obtain ⟨a, xs, q1, q2, q3⟩ := s.lst hn
        exact .inl ⟨a, xs, loc_rep (g := gd X) (H := H) r q1, SqL.of q2, q _ (ok_loc q1)⟩
      · cases h
    | str z =>
      cases h
      cases rep_str r
      exact .inr (.inr ⟨z, rfl, q _ ok_str⟩)
    | _ => cases h
theorem si_seq (ha : SE X Z a ma) : SI X Z tg a (i_seq ma) := (pi_dyn ha).imp fun σ H Rr h => by
  obtain ⟨φ, S, ρ, s, e, p⟩ := h
  refine ⟨φ, S, ρ, s, e, (PostG.bind (rep := repE (gd X)) p).mono fun x H1 ⟨t, S1, φ1, e1, s1, r1, p1⟩ => ?_⟩
  split at p1
  · rename_i it hit
    exact items_ok s1 r1.1 hit fun J hJ => p1.now s1 hJ
  · exact p1.elim
/-- range(n), range(a, b) -/
def rangeW (lo hi : Int) : List W := (List.range (hi - lo).toNat).map fun i => W.int (lo + (i : Nat))
def i_range1 (m : ME) : MI := fun ρ S => (m ρ S).bind fun t S1 => match t with
  | .w (.int j) => if -(2 ^ 62) ≤ j ∧ j < 2 ^ 62 then .ok ⟨rangeW 0 j, fun _ => True⟩ S1 else .no
  | _ => .no
def i_range2 (m k : ME) : MI := fun ρ S => (m ρ S).bind fun t S1 => (k ρ S1).bind fun u S2 => match t, u with
  | .w (.int i), .w (.int j) => if -(2 ^ 62) ≤ i ∧ i < 2 ^ 62 ∧ -(2 ^ 62) ≤ j ∧ j < 2 ^ 62 then .ok ⟨rangeW i j, fun _ => True⟩ S2 else .no
  | _, _ => .no
theorem ok_range {g : Gd} {lo hi : Int} {H0 : Hp} {φ0 : List Addr} : ItOk g (Itr lo (hi - lo).toNat) (rangeW lo hi) (fun _ => True) H0 φ0 where
  go := fun H φ S i w e s _ hw => by
    unfold rangeW at hw
    rw [List.getElem?_map] at hw
    have hi : i < (hi - lo).toNat := by
      cases q : (List.range (hi - lo).toNat)[i]? with
      | none => rw [q] at hw; cases hw
      | some c => simpa using (List.getElem?_eq_some_iff.mp q).1
    refine ⟨hi, fun x H' ⟨e1, ex⟩ => ?_⟩
    subst e1; subst ex
    rw [List.getElem?_range hi] at hw
    cases hw
    exact ⟨.refl _ _, s, by simp only [Rep]⟩
  stop := fun H φ S e s _ => by
    show (hi - lo).toNat ≤ (rangeW lo hi).length
    simp [rangeW]
theorem si_range1 (hg : Gl X "range") (hm : X.mg "range" = none) (ha : SE X Z a ma) (hs : starEach [a] X.env = [(false, eval a X.env)] := by rfl) : SI X Z tg (.Call (.Name "range" p) [a] [] pos) (i_range1 ma) := (pi_range1 hg hm (pa1 ha hs) hs).imp fun σ H Rr h => by
  obtain ⟨φ, S, ρ, s, e, p⟩ := h
  refine ⟨φ, S, ρ, s, e, (PostG.bind (rep := repE (gd X)) p).mono fun x H1 ⟨t, S1, φ1, e1, s1, r1, p1⟩ => ?_⟩
  split at p1
  · split at p1
    · rename_i hj
      cases rep_int r1.1
      refine ⟨_, rfl, hj.1, hj.2, ?_⟩
      have q := ok_range (g := gd X) (lo := 0) (hi := by assumption) (H0 := H1) (φ0 := φ1)
      simp only [Int.sub_zero] at q
      exact p1.now s1 q
    · exact p1.elim
  · exact p1.elim
theorem si_range2 (hg : Gl X "range") (hm : X.mg "range" = none) (ha : SE X Z a ma) (hb : SE X Z b mb) (hs : starEach [a, b] X.env = [(false, eval a X.env), (false, eval b X.env)] := by rfl) (hs2 : starEach [b] X.env = [(false, eval b X.env)] := by rfl) : SI X Z tg (.Call (.Name "range" p) [a, b] [] pos) (i_range2 ma mb) := (pi_range2 hg hm (pa2 ha hb (by rw [hs, hs2]) hs2) hs hs2).imp fun σ H Rr h => by
  obtain ⟨φ, S, ρ, s, e, p⟩ := h
  refine ⟨φ, S, ρ, s, e, (PostG.bind (rep := repE (gd X)) p).mono fun x H1 ⟨t, S1, φ1, e1, s1, r1, p1⟩ => ?_⟩
  refine ⟨φ1, S1, ρ, s1, e.mono s e1, (PostG.bind (rep := repE (gd X)) p1).mono fun y H2 ⟨u, S2, φ2, e2, s2, r2, p2⟩ => ?_⟩
  split at p2
  · split at p2
    · rename_i hj
      have q1 := rep_int r1.1
      have q2 := rep_int r2.1
      exact ⟨_, _, by rw [q1, q2], hj, p2.now s2 ok_range⟩
    · exact p2.elim
  · exact p2.elim
end
/-! ### for -/
def wipeR : List Nat → Rho → Rho
  | [], ρ => ρ
  | i :: is, ρ => wipeR is (ρ.set i none)
@[simp] theorem wipeR_nil (ρ : Rho) : wipeR [] ρ = ρ := rfl
@[simp] theorem wipeR_cons (i : Nat) (is : List Nat) (ρ : Rho) : wipeR (i :: is) ρ = wipeR is (ρ.set i none) := rfl
theorem ERep.unset {g : Gd} {H : Hp} {φ : List Addr} {ρ : Rho} {σ : St} (h : ERep g H φ ρ σ) (i : Nat) : ERep g H φ (ρ.set i none) σ := by
  refine ⟨by simp [h.len], fun j w q => ?_⟩
  by_cases e : i = j
  · subst e
    rw [List.getElem?_set] at q
    split at q
    · split at q <;> cases q
    · exact h.at_ i w q
  · rw [List.getElem?_set_ne e] at q
    exact h.at_ j w q
theorem ERep.wipe {g : Gd} {H : Hp} {φ : List Addr} {σ : St} : ∀ {is : List Nat} {ρ : Rho}, ERep g H φ ρ σ → ERep g H φ (wipeR is ρ) σ
  | [], _, h => h
  | i :: is, _, h => ERep.wipe (is := is) (h.unset i)
/-- behind a turn -/
def RS.again (r : RS) (clr : List Nat) (f : Rho → Store → RS) : RS :=
  match r with
  | .next ρ S => f ρ S
  | .cnt ρ S => f ρ S
  | .brk ρ S => .next (wipeR clr ρ) S
  | r => r
@[simp] theorem RS.again_next (ρ : Rho) (S : Store) (clr : List Nat) (f : Rho → Store → RS) : (RS.next ρ S).again clr f = f ρ S := rfl
@[simp] theorem RS.again_cnt (ρ : Rho) (S : Store) (clr : List Nat) (f : Rho → Store → RS) : (RS.cnt ρ S).again clr f = f ρ S := rfl
@[simp] theorem RS.again_brk (ρ : Rho) (S : Store) (clr : List Nat) (f : Rho → Store → RS) : (RS.brk ρ S).again clr f = .next (wipeR clr ρ) S := rfl
@[simp] theorem RS.again_ret (t : T) (S : Store) (clr : List Nat) (f : Rho → Store → RS) : (RS.ret t S).again clr f = .ret t S := rfl
open Classical in
noncomputable def forL (g : MG) (clr : List Nat) (body : MS) (chk : Store → Prop) : List W → Rho → Store → RS
  | [], ρ, S => if chk S then .next (wipeR clr ρ) S else .no
  | w :: ws, ρ, S => if chk S then ((g w (wipeR clr ρ) S).calm.thenS ρ fun ρ1 S1 => (body ρ1 S1).again clr (forL g clr body chk ws)) else .no
noncomputable def s_for (mi : MI) (g : MG) (clr : List Nat) (body : MS) : MS := fun ρ S => (mi ρ S).thenS ρ fun it S1 => forL g clr body it.chk it.ws ρ S1
/-- what a body is run in -/
structure Ctx (X : Cx) (Z : WX) (k : Nat) : Prop where
  room : Room k X.A
  calm : X.calm = true
  tk : L2N.Takes X Z
  po : PassesOwn (model X.prog X.w) X.A X.env X.xe
section
variable {X : Cx} {Z : WX} {tg iter : Expr} {body : List Stmt} {mi : MI} {mg : MG} {mb : MS} {ts : List Nat} {pos : Pos}
theorem PostS.again {g : Gd} {Z : WX} {H : Hp} {φ : List Addr} {r : RS} {clr : List Nat} {f : Rho → Store → RS} {D : Ends} {N : St → Hp → Prop} (h : PostS g Z H φ (r.again clr f) D)
    (hN : ∀ σ' H' φ' ρ' S', Ext H φ H' φ' → SRep g H' φ' S' → ERep g H' φ' ρ' σ' → PostS g Z H' φ' (f ρ' S') D → N σ' H') : PostS g Z H φ r { D with nx := N, ct := N, bk := D.nx } := by
  cases r with
  | next ρ S => exact fun σ H' φ' e s r => hN σ H' φ' ρ S e s r (PostS.later (r := f ρ S) h e)
  | cnt ρ S => exact fun σ H' φ' e s r => hN σ H' φ' ρ S e s r (PostS.later (r := f ρ S) h e)
  | brk ρ S => exact fun σ H' φ' e s r => h σ H' φ' e s r.wipe
  | ret t S => exact h
  | exc c ns ws ρ S => exact h
  | no => exact h
theorem ss_for (clr : List Nat) (hp : PassesOwn (model X.prog X.w) X.A X.env X.xe) (hc : X.calm = true) (hi : SI X Z tg iter mi) (hg : SG X Z ts tg mg) (hb : SSs X Z body mb) (hs : ∀ x, foldedSetIterable iter X.env x = pure x := by intro _; rfl) :
    SS X Z (.For tg iter body [] pos) (s_for mi mg clr mb) := (ps_for hp hc hi hg hb hs).imp fun D σ H h => by
  obtain ⟨φ, S, ρ, s, e, p⟩ := h
  refine ⟨φ, S, ρ, s, e, (PostS.thenS (rep := repI (gd X)) p s e).mono fun J H1 ⟨it, S1, φ1, e1, s1, ok, p1⟩ => ?_⟩
  refine ⟨fun i m σ H2 => ∃ φ2 S2 ρ2, m = it.ws.length - i ∧ i ≤ it.ws.length ∧ Ext H1 φ1 H2 φ2 ∧ SRep (gd X) H2 φ2 S2 ∧ ERep (gd X) H2 φ2 ρ2 σ ∧ PostS (gd X) Z H2 φ2 (forL mg clr mb it.chk (it.ws.drop i) ρ2 S2) D,
    ⟨it.ws.length, φ1, S1, ρ, rfl, Nat.zero_le _, .refl _ _, s1, e.mono s e1, p1⟩, ?_⟩
  rintro i m σ2 H2 ⟨φ2, S2, ρ2, rfl, hi2, e2, s2, r2, p2⟩
  by_cases hlt : i < it.ws.length
  · right
    have hd : it.ws.drop i = it.ws[i] :: it.ws.drop (i + 1) := List.drop_eq_getElem_cons hlt
    rw [hd] at p2
    unfold forL at p2
    split at p2
    · rename_i hchk
      obtain ⟨g1, g2⟩ := ok.go H2 φ2 S2 i it.ws[i] e2 s2 hchk (List.getElem?_eq_getElem hlt)
      refine ⟨g1, fun σ' H' => ∃ φ' S' ρ', Ext H1 φ1 H' φ' ∧ SRep (gd X) H' φ' S' ∧ ERep (gd X) H' φ' ρ' σ' ∧ PostS (gd X) Z H' φ' (forL mg clr mb it.chk (it.ws.drop (i + 1)) ρ' S') D, ?_, fun x H3 y => ?_⟩
      · rintro σ' H' ⟨φ', S', ρ', q1, q2, q3, q4⟩
        exact ⟨it.ws.length - (i + 1), by omega, φ', S', ρ', rfl, hlt, q1, q2, q3, q4⟩
      · obtain ⟨e3, s3, r3⟩ := g2 x H3 y
        refine ⟨φ2, S2, wipeR clr ρ2, it.ws[i], s3, (r2.mono s2 e3).wipe, r3, ?_⟩
        have p3 := PostS.later p2 e3
        refine PostG.calm (Z := Z) (σ := σ2) ((PostS.thenS (rep := repN (gd X) ts σ2) p3 s3 (r2.mono s2 e3)).mono fun σ4 H4 ⟨ρ4, S4, φ4, e4, s4, r4, p4⟩ => ?_)
        refine ⟨φ4, S4, ρ4, s4, r4.1, PostS.again p4 fun σ5 H5 φ5 ρ5 S5 e5 s5 r5 p5 => ?_⟩
        exact ⟨φ5, S5, ρ5, ((e2.trans e3).trans e4).trans e5, s5, r5, p5⟩
    · exact p2.elim
  · left
    have hie : i = it.ws.length := by omega
    subst hie
    rw [List.drop_length] at p2
    unfold forL at p2
    split at p2
    · rename_i hchk
      exact ⟨ok.stop H2 φ2 S2 e2 s2 hchk, p2 σ2 H2 φ2 (.refl _ _) s2 r2.wipe⟩
    · exact p2.elim
end
/-! ### comprehensions -/
abbrev Zf : WX := fun _ _ _ _ => False
def t_yes : MT := fun _ S => .ok true S
open Classical in
noncomputable def lcL (g : MG) (tt : MT) (me : ME) (chk : Store → Prop) (ρ : Rho) : List W → Store → R (List W)
  | [], S => if chk S then .ok [] S else .no
  | w :: ws, S => if chk S then (g w ρ S).calm.bind fun ρ1 S1 => (tt ρ1 S1).calm.bind fun b S2 =>
      if b = true then (me ρ1 S2).calm.bind fun t S3 => (settle t S3).bind fun x S4 => (lcL g tt me chk ρ ws S4).bind fun xs S5 => .ok (x :: xs) S5
      else lcL g tt me chk ρ ws S2 else .no
noncomputable def m_lc (mi : MI) (own : List Nat) (g : MG) (tt : MT) (me : ME) : ME := fun ρ S => (mi ρ S).bind fun it S1 =>
  if it.ws.length ≤ sizeLine then (lcL g tt me it.chk (wipeR own ρ) it.ws S1).bind fun ws S2 => .ok (.l ws) S2 else .no
theorem wipe_in {σ : L2.St} {i : Nat} : ∀ {vs : List Nat}, i ∈ vs → (L2.wipe σ vs)[i]? = if i < σ.length then some none else none
  | [], h => by cases h
  | v :: vs, h => by
    unfold L2.wipe
    by_cases e : v = i
    · subst e
      rw [List.getElem?_set]
      simp only [if_true, L2.wipe_length]
    · rw [List.getElem?_set_ne e]
      have h' : i ∈ vs := by
        rcases List.mem_cons.mp h with z | z
        · exact absurd z.symm e
        · exact z
      exact wipe_in h'
theorem wipe_but {σ σ' : L2.St} {ts vs : List Nat} (h : But ts σ σ') (hs : ∀ i ∈ ts, i ∈ vs) : L2.wipe σ' vs = L2.wipe σ vs := by
  apply List.ext_getElem?
  intro i
  by_cases hi : i ∈ vs
  · rw [wipe_in hi, wipe_in hi, h.1]
  · rw [L2.wipe_out hi, L2.wipe_out hi]
    exact h.2 i fun z => hi (hs i z)
theorem wipe_wipe {σ : L2.St} {vs : List Nat} : L2.wipe (L2.wipe σ vs) vs = L2.wipe σ vs := wipe_but (ts := vs) ⟨L2.wipe_length σ vs, fun i h => L2.wipe_out h⟩ fun _ h => h
theorem wipeR_get : ∀ {is : List Nat} {ρ : Rho} {i : Nat} {w : W}, (wipeR is ρ)[i]? = some (some w) → ρ[i]? = some (some w) ∧ i ∉ is
  | [], ρ, i, w, h => ⟨h, by simp⟩
  | j :: js, ρ, i, w, h => by
    obtain ⟨h1, h2⟩ := wipeR_get (is := js) h
    by_cases e : j = i
    · subst e
      rw [List.getElem?_set] at h1
      split at h1
      · split at h1 <;> cases h1
      · rename_i z; exact absurd rfl z
    · rw [List.getElem?_set_ne e] at h1
      exact ⟨h1, by simp only [List.mem_cons, not_or]; exact ⟨fun z => e z.symm, h2⟩⟩
theorem wipeR_length : ∀ (is : List Nat) (ρ : Rho), (wipeR is ρ).length = ρ.length
  | [], _ => rfl
  | j :: js, ρ => by rw [wipeR_cons, wipeR_length js]; simp
theorem ERep.blk {g : Gd} {H : Hp} {φ : List Addr} {ρ : Rho} {σ : St} {vs : List Nat} (h : ERep g H φ ρ σ) : ERep g H φ (wipeR vs ρ) (L2.wipe σ vs) := by
  refine ⟨by rw [L2.wipe_length, wipeR_length, h.len], fun i w q => ?_⟩
  obtain ⟨q1, q2⟩ := wipeR_get q
  obtain ⟨v, a, b⟩ := h.at_ i w q1
  exact ⟨v, by rw [L2.wipe_out q2]; exact a, b⟩
/-! ### a list that grows beside the places -/
/-- tuples, locked lists, exceptions' dicts stay -/
def immu : HO → Bool
  | .tup _ | .frz _ _ | .xd _ => true
  | _ => false
structure Stay (H : Hp) (φ : List Addr) (H1 : Hp) (φ1 : List Addr) : Prop where
  pre : φ <+: φ1
  imm : ∀ a u, H a = some u → immu u = true → H1 a = some u
section
variable {g : Gd} {H H1 : Hp} {φ φ1 : List Addr}
theorem sqT_stay {a : Addr} {xs : List V} (e : Stay H φ H1 φ1) (h : SqT g.K H a xs) : SqT g.K H1 a xs := by
  rcases h with (h | ⟨o, h⟩) | h
  · exact .inl (.inl (e.imm _ _ h rfl))
  · exact .inl (.inr ⟨o, e.imm _ _ h rfl⟩)
  · exact .inr h
theorem roL_stay {a : Addr} {xs : List V} (e : Stay H φ H1 φ1) (h : RoL g.K H a xs) : RoL g.K H1 a xs := by
  rcases h with ⟨o, h⟩ | h
  · exact .inl ⟨o, e.imm _ _ h rfl⟩
  · exact .inr h
mutual
theorem Rep.stay (e : Stay H φ H1 φ1) : ∀ (w : W) (v : V), Rep g H φ w v → Rep g H1 φ1 w v
  | .non, _, h => by simpa only [Rep] using h
  | .bl b, _, h => by simpa only [Rep] using h
  | .int i, _, h => by simpa only [Rep] using h
  | .str x, _, h => by simpa only [Rep] using h
  | .tup ws, v, h => by
    simp only [Rep] at h ⊢
    obtain ⟨a, xs, h1, h2, h3⟩ := h
    exact ⟨a, xs, h1, sqT_stay e h2, Reps.stay e ws xs h3⟩
  | .loc n, v, h => by
    simp only [Rep] at h ⊢
    obtain ⟨a, h1, h2⟩ := h
    exact ⟨a, getp e.pre h1, h2⟩
  | .rol ws, v, h => by
    simp only [Rep] at h ⊢
    obtain ⟨a, xs, h1, h2, h3⟩ := h
    exact ⟨a, xs, h1, roL_stay e h2, Reps.stay e ws xs h3⟩
  | .exn c ns ws, v, h => by simp only [Rep] at h
theorem Reps.stay (e : Stay H φ H1 φ1) : ∀ (ws : List W) (xs : List V), Reps g H φ ws xs → Reps g H1 φ1 ws xs
  | [], _, h => by simpa only [Reps] using h
  | w :: ws, xs, h => by
    simp only [Reps] at h ⊢
    obtain ⟨x, r, h1, h2, h3⟩ := h
    exact ⟨x, r, h1, Rep.stay e w x h2, Reps.stay e ws r h3⟩
end
theorem SlRep.stay (e : Stay H φ H1 φ1) {w : W} {v : V} (h : SlRep g H φ w v) : SlRep g H1 φ1 w v := by
  cases w with
  | exn c ns ws =>
    obtain ⟨a, oe, C, d, h1, h2, h3, h4, h5, h6⟩ := h
    refine ⟨a, oe, C, d, h1, h2, h3, h4, h5, ?_⟩
    rcases h6 with h6 | ⟨dd, fs, xs, q1, q2, q3, q4⟩
    · exact .inl h6
    · exact .inr ⟨dd, fs, xs, q1, e.imm _ _ q2 rfl, Reps.stay e ws xs q3, q4⟩
  | _ => exact Rep.stay e _ v h
theorem ERep.stay {ρ : Rho} {σ : St} (e : Stay H φ H1 φ1) (h : ERep g H φ ρ σ) : ERep g H1 φ1 ρ σ :=
  ⟨h.len, fun i w q => let ⟨v, a, b⟩ := h.at_ i w q; ⟨v, a, b.stay e⟩⟩
/-- an object beside the places is written -/
theorem stay_upd {a : Addr} {u o : HO} (h : H a = some u) (hi : immu u = false) : Stay H φ (upd H a o) φ :=
  ⟨List.prefix_refl _, fun b v hb hv => by
    have nb : b ≠ a := fun z => by subst z; rw [h] at hb; cases hb; rw [hi] at hv; cases hv
    rw [upd_ne nb]; exact hb⟩
theorem SRep.beside {S : Store} {a : Addr} {u o : HO} (s : SRep g H φ S) (h : H a = some u) (hi : immu u = false) (ha : a ∉ φ) : SRep g (upd H a o) φ S := by
  refine ⟨s.len, s.nd, fun i b v e1 e2 => ?_⟩
  have nb : b ≠ a := fun z => ha (z ▸ List.mem_of_getElem? e1)
  have q := s.at_ i b v e1 e2
  have st := stay_upd (φ := φ) (o := o) h hi
  have hb : upd H a o b = H b := upd_ne nb
  cases v with
  | lst ws => obtain ⟨xs, q, r⟩ := q; exact ⟨xs, hb.trans q, Reps.stay st _ _ r⟩
  | ins c ns ws => obtain ⟨C, dx, xs, h1, h2, h3, h4⟩ := q; exact ⟨C, dx, xs, h1, h2, hb.trans h3, Reps.stay st _ _ h4⟩
  | dic kvs =>
    rcases q with ⟨ks, xs, h1, h2, h3, h4⟩ | ⟨ks, xs, h1, h2, h3, h4⟩
    · exact .inl ⟨ks, xs, h1, h2, hb.trans h3, Reps.stay st _ _ h4⟩
    · exact .inr ⟨ks, xs, h1, h2, hb.trans h3, Reps.stay st _ _ h4⟩
  | dicL kvs =>
    obtain ⟨o', ⟨ks, xs, h1, h2, h3, h4⟩ | ⟨ks, xs, h1, h2, h3, h4⟩⟩ := q
    · exact ⟨o', .inl ⟨ks, xs, h1, h2, hb.trans h3, Reps.stay st _ _ h4⟩⟩
    · exact ⟨o', .inr ⟨ks, xs, h1, h2, hb.trans h3, Reps.stay st _ _ h4⟩⟩
end
theorem R.bind_bind {α β γ : Type} (r : R α) (f : α → Store → R β) (k : β → Store → R γ) : (r.bind f).bind k = r.bind fun a S => (f a S).bind k := by
  cases r <;> rfl
section
variable {α β γ δ : Type} {rep : RepT α β} {rep' : RepT γ δ} {g : Gd} {Z : WX} {σ : St} {H : Hp} {φ : List Addr}
/-- the base stays -/
theorem PostG.bind0 {r : R α} {k : α → Store → R γ} {Q : δ → Hp → Prop} (h : PostG rep' g Z σ H φ (r.calm.bind k) Q) (σ1 : St) (H1 : Hp) (φ1 : List Addr) :
    PostG rep g Zf σ1 H1 φ1 r fun v H2 => ∃ t S2 φ2, Ext H1 φ1 H2 φ2 ∧ SRep g H2 φ2 S2 ∧ rep H1 H2 φ2 t v ∧ PostG rep' g Z σ H φ (k t S2) Q := by
  cases r with
  | ok t S => exact fun v H' φ' e s r => ⟨t, S, φ', e, s, r, h⟩
  | exc c ns ws S => exact h.elim
  | no => exact h.elim
end
section
variable {X : Cx} {Z : WX} {tg iter elt : Expr} {ifs : List Expr} {mi : MI} {mg : MG} {mt : MT} {me : ME} {ts : List Nat} {scope : Scope} {own : List (Str × Nat)} {pos : Pos}
/-- the reading of a comprehension, by the loop -/
theorem lc_imp (g : Gd) (vs : List Nat) (hv : ∀ i ∈ ts, i ∈ vs) {σ : St} {H : Hp} {Q : VK} (h : lift (repE g) g Z (m_lc mi vs mg mt me) σ H Q) :
    tLc (lift (repI g) g Z mi) (lGg g Zf ts mg) (lift repT g Zf mt) (lift (repE g) g Zf me) vs σ H Q := by
  obtain ⟨φ, S, ρ, s, e, p⟩ := h
  refine ⟨φ, S, ρ, s, e, (PostG.bind (rep := repI g) p).mono fun J H1 ⟨it, S1, φ1, e1, s1, ok, p1⟩ => ?_⟩
  split at p1
  rotate_left
  · exact p1.elim
  rename_i hz
  intro D hD
  have eD := s1.newE (.lst []) hD
  have sD := s1.newS (.lst []) hD
  have e1ρ := e.mono s e1
  -- what is left to do at turn i: the items made so far are told by acc; the base stays (H1, φ1)
  refine ⟨fun i m H2 => ∃ φ2 S2 accW accV, m = it.ws.length - i ∧ i ≤ it.ws.length ∧ Ext H1 φ1 H2 φ2 ∧ SRep g H2 φ2 S2 ∧ D ∉ φ2 ∧ H2 D = some (.lst accV) ∧ Reps g H2 φ2 accW accV ∧ accW.length ≤ i ∧
      ERep g H2 φ2 ρ σ ∧ PostG (repE g) g Z σ H1 φ1 ((lcL mg mt me it.chk (wipeR vs ρ) (it.ws.drop i) S2).bind fun ws S3 => .ok (.l (accW ++ ws)) S3) Q,
    ⟨it.ws.length, φ1, S1, [], [], rfl, Nat.zero_le _, eD, sD, s1.free hD, upd_same, Reps.nil, Nat.zero_le _, e1ρ.mono s1 eD, p1⟩, ?_⟩
  rintro i m H2 ⟨φ2, S2, accW, accV, rfl, hi2, e2, s2, d2, hD2, rA, lA, r2, p2⟩
  by_cases hlt : i < it.ws.length
  · right
    have hd : it.ws.drop i = it.ws[i] :: it.ws.drop (i + 1) := List.drop_eq_getElem_cons hlt
    rw [hd] at p2
    unfold lcL at p2
    split at p2
    rotate_left
    · exact p2.elim
    rename_i hchk
    have okI : Ext H1 φ1 H2 φ2 := e2
    obtain ⟨g1, g2⟩ := ok.go H2 φ2 S2 i it.ws[i] e2 s2 hchk (List.getElem?_eq_getElem hlt)
    refine ⟨g1, fun H' => ∃ φ' S' accW accV, Ext H1 φ1 H' φ' ∧ SRep g H' φ' S' ∧ D ∉ φ' ∧ H' D = some (.lst accV) ∧ Reps g H' φ' accW accV ∧ accW.length ≤ i + 1 ∧
      ERep g H' φ' ρ σ ∧ PostG (repE g) g Z σ H1 φ1 ((lcL mg mt me it.chk (wipeR vs ρ) (it.ws.drop (i + 1)) S').bind fun ws S3 => .ok (.l (accW ++ ws)) S3) Q, ?_, fun x H3 y => ?_⟩
    · rintro H' ⟨φ', S', aW, aV, q1, q2, q3, q4, q5, q6, q7, q8⟩
      exact ⟨it.ws.length - (i + 1), by omega, φ', S', aW, aV, rfl, hlt, q1, q2, q3, q4, q5, q6, q7, q8⟩
    obtain ⟨e3, s3, r3⟩ := g2 x H3 y
    -- D stays through whatever runs
    have keepD : ∀ {H4 : Hp} {φ4 : List Addr}, Ext H3 φ2 H4 φ4 → H4 D = some (.lst accV) ∧ D ∉ φ4 := fun {H4 φ4} e4 => by
      have h3 := e3.keep D _ hD2 d2
      exact ⟨e4.keep D _ h3 d2, fun z => (e4.new D z).elim d2 fun q => by rw [h3] at q; cases q⟩
    rw [R.bind_bind] at p2
    refine ⟨φ2, S2, wipeR vs ρ, it.ws[i], s3, (r2.mono s2 e3).blk, r3, ?_⟩
    refine (PostG.bind0 (rep := repN g ts (L2.wipe σ vs)) p2 _ _ _).mono fun σ4 H4 ⟨ρ4, S4, φ4, e4, s4, r4, p4⟩ => ?_
    refine ⟨(wipe_but r4.2 hv).trans wipe_wipe, ?_⟩
    rw [R.bind_bind] at p4
    refine ⟨φ4, S4, ρ4, s4, r4.1, (PostG.bind0 (rep := repT) p4 _ _ _).mono fun b H5 ⟨b', S5, φ5, e5, s5, r5, p5⟩ => ?_⟩
    obtain rfl : b' = b := r5
    have e35 := e4.trans e5
    have e15 := (e2.trans e3).trans e35
    have rσ5 : ERep g H5 φ5 ρ σ := (r2.mono s2 e3).mono s3 e35
    have rA5 : Reps g H5 φ5 accW accV := Reps.mono s3 e35 _ _ (Reps.mono s2 e3 _ _ rA)
    cases b' with
    | false =>
      simp only [Bool.false_eq_true, if_false] at p5 ⊢
      obtain ⟨h5, d5⟩ := keepD e35
      exact ⟨φ5, S5, accW, accV, e15, s5, d5, h5, rA5, by omega, rσ5, p5⟩
    | true =>
      simp only [if_true] at p5 ⊢
      rw [R.bind_bind] at p5
      refine ⟨φ5, S5, ρ4, s5, r4.1.mono s4 e5, (PostG.bind0 (rep := repE g) p5 _ _ _).mono fun yv H6 ⟨t, S6, φ6, e6, s6, r6, p6⟩ => ?_⟩
      obtain ⟨xw, S7, φ7, eqs, pre7, e7, s7, r7⟩ := settle_ok e6 s6 r6
      rw [eqs] at p6
      simp only [R.ok_bind] at p6
      rw [R.bind_bind] at p6
      simp only [R.ok_bind] at p6
      obtain ⟨h7, d7⟩ := keepD (e35.trans e7)
      have e17 := e15.trans e7
      have st := stay_upd (φ := φ7) (o := .lst (accV ++ [yv])) h7 rfl
      refine ⟨accV, h7, ?_, φ7, S7, accW ++ [xw], accV ++ [yv], ?_, s7.beside h7 rfl d7, d7, upd_same, ?_, ?_, ?_, ?_⟩
      · have := (Reps.mono s5 e7 _ _ rA5).length
        rw [← this]
        omega
      · exact ⟨e17.pre, fun a u ha hn => by rw [upd_ne (ne_of_none ha hD)]; exact e17.keep a u ha hn, e17.new⟩
      · exact Reps.stay st _ _ ((Reps.mono s5 e7 _ _ rA5).append (Reps.one r7))
      · simp; omega
      · exact (rσ5.mono s5 e7).stay st
      · simpa only [List.append_assoc, List.singleton_append] using p6
  · left
    have hie : i = it.ws.length := by omega
    subst hie
    rw [List.drop_length] at p2
    unfold lcL at p2
    split at p2
    rotate_left
    · exact p2.elim
    rename_i hchk
    refine ⟨ok.stop H2 φ2 S2 e2 s2 hchk, ?_⟩
    simp only [R.ok_bind, List.append_nil] at p2
    refine p2 (.ref D) H2 φ2 e2 s2 ⟨⟨D, accV, rfl, d2, hD2, rA⟩, fun b hb => ?_⟩
    cases hb
    exact hD
end
end Ev

set_option Elab.async false
set_option linter.all false
set_option maxRecDepth 100000
/-! Ev7: comprehensions as values, methods of lists, isinstance. -/
namespace Ev
open PySem PySem.Spec PyProof.Rows L2

/-- a clause's tests -/
abbrev STs (X : Cx) (Z : WX) (ifs : List Expr) (m : MT) : Prop := PTs X ifs (lT X Z m)
theorem _root_.L2.PTs.imp {X : Cx} {e : List Expr} {t t' : TT} (h : PTs X e t) (i : ∀ σ H Q, t' σ H Q → t σ H Q) : PTs X e t' := ⟨fun pins s σ H Q I q => h.run pins s σ H Q I (i _ _ _ q)⟩
section
variable {X : Cx} {Z : WX}
theorem sts_nil : STs X Z [] t_yes := pts_nil.imp fun σ H Q h => by
  obtain ⟨φ, S, ρ, s, e, p⟩ := h
  exact p.now s rfl
theorem sts_one {c : Expr} {m : MT} (h : ST X Z c m) : STs X Z [c] m := pts_one h
end
theorem gd_calm {X : Cx} (hc : X.calm = true) : gd X = gd0 X.K X.mg := by simp only [gd, hc, if_true]
theorem takesN0 {X : Cx} : L2N.Takes X Zf := fun _ _ x => by
  obtain ⟨_, _, _, _, _, _, _, _, _, _, _, _, _, _, _, _, z⟩ := x
  exact z.elim
/-- the context of a comprehension's block -/
theorem Ctx.blk {X : Cx} {Z : WX} {k : Nat} (c : Ctx X Z k) {s : Shared} {H : Hp} {scope : Scope} {cenv : PySem.Env} {fp : List Addr} : Ctx (X.blk s H scope cenv fp) Zf k :=
  ⟨c.room, c.calm, takesN0, PassesOwn.never⟩
theorem Ctx.mono {X : Cx} {Z : WX} {k j : Nat} (c : Ctx X Z k) (h : j ≤ k) : Ctx X Z j := ⟨c.room.mono h, c.calm, c.tk, c.po⟩
section
variable {X : Cx} {Z : WX} {tg iter elt : Expr} {ifs : List Expr} {mi : MI} {mg : MG} {mt : MT} {me : ME} {ts : List Nat} {scope : Scope} {own : List (Str × Nat)} {pos : Pos}
theorem lc_g {mi : MI} (hc : X.calm = true) (hi : SI X Z tg iter mi) : PI X tg iter (lift (repI (gd0 X.K X.mg)) (gd0 X.K X.mg) Z mi) := by
  have := hi
  rw [SI, gd_calm hc] at this
  exact this
theorem se_lc (hc : X.calm = true) (hN : X.N.Nodup) (hi : SI X Z tg iter mi) (ok : BlkOk X.N X.env.scope scope own) (hv : ∀ i ∈ ts, i ∈ own.map (·.2))
    (hg : ∀ (s : Shared) (H : Hp) (C : Addr) (cl : List (Str × Addr)) (fp : List Addr), SG (X.blk s H scope (compEnvC scope cl C X.env) fp) Zf ts tg mg) (ht : ∀ (s : Shared) (H : Hp) (C : Addr) (cl : List (Str × Addr)) (fp : List Addr), STs (X.blk s H scope (compEnvC scope cl C X.env) fp) Zf ifs mt)
    (he : ∀ (s : Shared) (H : Hp) (C : Addr) (cl : List (Str × Addr)) (fp : List Addr), SE (X.blk s H scope (compEnvC scope cl C X.env) fp) Zf elt me) (hs : ∀ x, foldedSetIterable iter X.env x = pure x := by intro _; rfl) :
    SE X Z (.ListComp elt [⟨tg, iter, ifs, 0⟩] scope pos) (m_lc mi (own.map (·.2)) mg mt me) := by
  have eb : ∀ (s : Shared) (H : Hp) (C : Addr) (cl : List (Str × Addr)) (fp : List Addr), gd (X.blk s H scope (compEnvC scope cl C X.env) fp) = gd0 X.K X.mg := fun s H C cl fp => gd_calm hc
  refine (pe_lc hc hN (lc_g hc hi) ok (g := lGg (gd0 X.K X.mg) Zf ts mg) (tt := lift repT (gd0 X.K X.mg) Zf mt) (te := lift (repE (gd0 X.K X.mg)) (gd0 X.K X.mg) Zf me) ?_ ?_ ?_ hs).imp fun σ H Q h => ?_
  · intro s H C cl fp
    have := hg s H C cl fp
    rw [SG, lG, eb] at this
    exact this
  · intro s H C cl fp
    have := ht s H C cl fp
    rw [STs, lT, eb] at this
    exact this
  · intro s H C cl fp
    have := he s H C cl fp
    rw [SE, lE, eb] at this
    exact this
  · have h' : lift (repE (gd0 X.K X.mg)) (gd0 X.K X.mg) Z (m_lc mi (own.map (·.2)) mg mt me) σ H Q := by rw [← gd_calm hc]; exact h
    exact lc_imp _ _ hv h'
/-- name = [..] on one line -/
theorem ss_setLc {i : Nat} {y : Str} {py spos : Pos} (hc : X.calm = true) (hN : X.N.Nodup) (hy : X.N[i]? = some y) (hyl : X.env.scope.names.lookup y = some .local) (hsw : swapsWith (.ListComp elt [⟨tg, iter, ifs, 0⟩] scope pos) (some (.Name y py)) spos.line X.env = pure true)
    (hi : SI X Z tg iter mi) (ok : BlkOk X.N X.env.scope scope own) (hv : ∀ i ∈ ts, i ∈ own.map (·.2))
    (hg : ∀ (s : Shared) (H : Hp) (C : Addr) (cl : List (Str × Addr)) (fp : List Addr), SG (X.blk s H scope (compEnvC scope cl C X.env) fp) Zf ts tg mg) (ht : ∀ (s : Shared) (H : Hp) (C : Addr) (cl : List (Str × Addr)) (fp : List Addr), STs (X.blk s H scope (compEnvC scope cl C X.env) fp) Zf ifs mt)
    (he : ∀ (s : Shared) (H : Hp) (C : Addr) (cl : List (Str × Addr)) (fp : List Addr), SE (X.blk s H scope (compEnvC scope cl C X.env) fp) Zf elt me) (hs : ∀ x, foldedSetIterable iter X.env x = pure x := by intro _; rfl) :
    SS X Z (.Assign [.Name y py] (.ListComp elt [⟨tg, iter, ifs, 0⟩] scope pos) spos) (s_set i (m_lc mi (own.map (·.2)) mg mt me)) := by
  have eb : ∀ (s : Shared) (H : Hp) (C : Addr) (cl : List (Str × Addr)) (fp : List Addr), gd (X.blk s H scope (compEnvC scope cl C X.env) fp) = gd0 X.K X.mg := fun s H C cl fp => gd_calm hc
  refine (ps_setLc (i := i) hc hN hy hyl hsw (lc_g hc hi) ok (g := lGg (gd0 X.K X.mg) Zf ts mg) (tt := lift repT (gd0 X.K X.mg) Zf mt) (te := lift (repE (gd0 X.K X.mg)) (gd0 X.K X.mg) Zf me) ?_ ?_ ?_ hs).imp fun D σ H h => ?_
  · intro s H C cl fp
    have := hg s H C cl fp
    rw [SG, lG, eb] at this
    exact this
  · intro s H C cl fp
    have := ht s H C cl fp
    rw [STs, lT, eb] at this
    exact this
  · intro s H C cl fp
    have := he s H C cl fp
    rw [SE, lE, eb] at this
    exact this
  · obtain ⟨φ, S, ρ, s, e, p⟩ := h
    have q : lift (repE (gd X)) (gd X) Z (m_lc mi (own.map (·.2)) mg mt me) σ H (fun x H1 => gName i x σ H1 D.nx) := by
      refine ⟨φ, S, ρ, s, e, (PostS.settle p s e).mono fun v H1 ⟨w, S1, φ1, e1, s1, r1, p1⟩ => ?_⟩
      exact p1 _ H1 φ1 (.refl _ _) s1 ((e.mono s e1).set r1.sl i)
    have h' : lift (repE (gd0 X.K X.mg)) (gd0 X.K X.mg) Z (m_lc mi (own.map (·.2)) mg mt me) σ H (fun x H1 => gName i x σ H1 D.nx) := by rw [← gd_calm hc]; exact q
    exact lc_imp _ _ hv h'
end
/-! ### methods of lists -/
section
variable {X : Cx} {Z : WX} {o a : Expr} {mo ma : ME} {apos cpos : Pos}
/-- o.append(e), as a value None -/
def wAppend (t : T) (w : W) (S : Store) : R T := match t with
  | .w (.loc n) => match S[n]? with
    | some (.lst ws) => if ws.length < sizeLine then .ok (.w .non) (S.set n (.lst (ws ++ [w]))) else .no
    | _ => .no
  | _ => .no
def isLst (t : T) (S : Store) : Bool := match t with
  | .w (.loc n) => match S[n]? with
    | some (.lst _) => true
    | _ => false
  | _ => false
def m_append (o a : ME) : ME := fun ρ S => (o ρ S).bind fun t S1 => if isLst t S1 = true then (a ρ S1).bind fun u S2 => (settle u S2).bind fun w S3 => wAppend t w S3 else .no
theorem isLst_ok {g : Gd} {H : Hp} {φ : List Addr} {S : Store} {t : T} {x : V} (s : SRep g H φ S) (r : TRep g H φ t x) (h : isLst t S = true) : tyV g.K "list" x H := by
  unfold isLst at h
  split at h
  · rename_i n
    split at h
    · rename_i ws hn
      obtain ⟨p, xs, q1, q2, q3⟩ := s.lst hn
      have ex : x = .ref p := loc_rep (g := g) (H := H) r q1
      subst ex
      exact .inl ⟨rfl, xs, SqL.of q2⟩
    · cases h
  · cases h
theorem se_append (ho : SE X Z o mo) (ha : SE X Z a ma) (hbase : attributeBase o "append" X.env (eval o X.env) = eval o X.env := by rfl)
    (hfew : ((backTo cpos (starEach [a] X.env)).all (fun x => !x.1) && (backToKw cpos (keywordEach [] X.env)).all (fun x => x.1.isSome) && decide ([a].length + ([] : List Keyword).length + (if ([] : List Keyword).isEmpty then 0 else 1) < 30)) = true := by rfl)
    (hline : (apos.endLine == cpos.line) = true := by rfl) (hs : starEach [a] X.env = (false, eval a X.env) :: starEach [] X.env := by rfl) (hplain : (backTo cpos (starEach [] X.env)).any (·.1) = false := by rfl) :
    SE X Z (.Call (.Attribute o "append" apos) [a] [] cpos) (m_append mo ma) :=
  (pe_bm PySem.F.plainAttrs_list PySem.F.slot_list_append PySem.F.type_list_append mt_append ho (pa1 ha hs) hbase hfew hline hs hplain).imp fun σ H Q h => by
    obtain ⟨φ, S, ρ, s, e, p⟩ := h
    refine ⟨φ, S, ρ, s, e, (PostG.bind (rep := repE (gd X)) p).mono fun x H1 ⟨t, S1, φ1, e1, s1, r1, p1⟩ => ?_⟩
    split at p1
    rotate_left
    · exact p1.elim
    rename_i hl
    refine ⟨isLst_ok s1 r1.1 hl, φ1, S1, ρ, s1, e.mono s e1, (PostG.settle p1).mono fun y H2 ⟨w, S2, φ2, e2, s2, r2, p2⟩ => ?_⟩
    have r1 := r1.1.mono s1 e2
    unfold wAppend at p2
    split at p2
    · split at p2
      · rename_i n ws hn
        split at p2
        · rename_i hz
          obtain ⟨b, xs, q1, q2, q3⟩ := s2.lst hn
          refine ⟨b, xs, y, loc_rep (g := gd X) (H := H2) r1 q1, rfl, q2, by rw [← q3.length]; exact hz, ?_⟩
          have ee := s2.putE q1 (.lst (xs ++ [y]))
          have ss := s2.putS (o := .lst (xs ++ [y])) (u := .lst (ws ++ [w])) q1 ⟨_, upd_same, Reps.mono s2 ee _ _ (q3.append (Reps.one r2))⟩
          exact p2.at_ ee ss ⟨by simp only [TRep, Rep], trivial⟩
        · exact p2.elim
      · exact p2.elim
    · exact p2.elim
/-- o.extend(e), e a list -/
def wExtend (t u : T) (S : Store) : R T := match t with
  | .w (.loc n) => match S[n]?, lstOf u S with
    | some (.lst ws), some us => if ws.length + us.length ≤ sizeLine then .ok (.w .non) (S.set n (.lst (ws ++ us))) else .no
    | _, _ => .no
  | _ => .no
def m_extend (o a : ME) : ME := fun ρ S => (o ρ S).bind fun t S1 => if isLst t S1 = true then (a ρ S1).bind fun u S2 => wExtend t u S2 else .no
theorem se_extend (ho : SE X Z o mo) (ha : SE X Z a ma) (hbase : attributeBase o "extend" X.env (eval o X.env) = eval o X.env := by rfl)
    (hfew : ((backTo cpos (starEach [a] X.env)).all (fun x => !x.1) && (backToKw cpos (keywordEach [] X.env)).all (fun x => x.1.isSome) && decide ([a].length + ([] : List Keyword).length + (if ([] : List Keyword).isEmpty then 0 else 1) < 30)) = true := by rfl)
    (hline : (apos.endLine == cpos.line) = true := by rfl) (hs : starEach [a] X.env = (false, eval a X.env) :: starEach [] X.env := by rfl) (hplain : (backTo cpos (starEach [] X.env)).any (·.1) = false := by rfl) :
    SE X Z (.Call (.Attribute o "extend" apos) [a] [] cpos) (m_extend mo ma) :=
  (pe_bm PySem.F.plainAttrs_list PySem.F.slot_list_extend PySem.F.type_list_extend mt_extend ho (pa1 ha hs) hbase hfew hline hs hplain).imp fun σ H Q h => by
    obtain ⟨φ, S, ρ, s, e, p⟩ := h
    refine ⟨φ, S, ρ, s, e, (PostG.bind (rep := repE (gd X)) p).mono fun x H1 ⟨t, S1, φ1, e1, s1, r1, p1⟩ => ?_⟩
    split at p1
    rotate_left
    · exact p1.elim
    rename_i hl
    refine ⟨isLst_ok s1 r1.1 hl, φ1, S1, ρ, s1, e.mono s e1, (PostG.bind (rep := repE (gd X)) p1).mono fun y H2 ⟨u, S2, φ2, e2, s2, r2, p2⟩ => ?_⟩
    have r1 := r1.1.mono s1 e2
    unfold wExtend at p2
    split at p2
    · split at p2
      · rename_i n _ _ ws us hn hu
        split at p2
        · rename_i hz
          obtain ⟨b, xs, q1, q2, q3⟩ := s2.lst hn
          obtain ⟨c, ys, ey, q5, q6⟩ := lstOf_ok s2 r2.1 hu
          refine ⟨b, c, xs, ys, loc_rep (g := gd X) (H := H2) r1 q1, by rw [ey], q2, q5, by rw [← q3.length, ← q6.length]; exact hz, ?_⟩
          have ee := s2.putE q1 (.lst (xs ++ ys))
          have ss := s2.putS (o := .lst (xs ++ ys)) (u := .lst (ws ++ us)) q1 ⟨_, upd_same, Reps.mono s2 ee _ _ (q3.append q6)⟩
          exact p2.at_ ee ss ⟨by simp only [TRep, Rep], trivial⟩
        · exact p2.elim
      · exact p2.elim
    · exact p2.elim
end
/-! ### isinstance against built-in types -/
def tyN (t : T) (S : Store) : Option String := match t with
  | .l _ => some "list"
  | .w .non => some "NoneType"
  | .w (.bl _) => some "bool"
  | .w (.int _) => some "int"
  | .w (.str _) => some "str"
  | .w (.tup _) => some "tuple"
  | .w (.rol _) => some "list"
  | .w (.loc n) => match S[n]? with
    | some (.lst _) => some "list"
    | some (.dic _) => some "dict"
    | _ => none
  | _ => none
def tyNames : List String := ["NoneType", "bool", "int", "str", "tuple", "list", "dict"]
def isSub (a b : String) : Bool := a == b || (a == "bool" && b == "int")
theorem kits : (tyNames.all fun a => ["bool", "int", "str", "tuple", "list", "dict"].all fun b => decide (kitB a b = some (isSub a b))) = true := by decide +kernel
theorem kit_sub {a b : String} (ha : a ∈ tyNames) (hb : b ∈ ["bool", "int", "str", "tuple", "list", "dict"]) (K : PySem.W.Frag) : PySem.W.kitOne K (.type a) (.type b) = some (isSub a b) :=
  kit_ty (of_decide_eq_true (List.all_eq_true.mp (List.all_eq_true.mp kits a ha) b hb))
theorem tyN_mem {t : T} {S : Store} {n : String} (h : tyN t S = some n) : n ∈ tyNames := by
  unfold tyN at h
  split at h
  all_goals first
    | (cases h; done)
    | (cases h; decide)
    | (split at h <;> first | (cases h; decide) | cases h)
theorem tyN_ok {g : Gd} {H : Hp} {φ : List Addr} {S : Store} {t : T} {x : V} {n : String} (s : SRep g H φ S) (r : TRep g H φ t x) (h : tyN t S = some n) : TyX g.K H x (.type n) := by
  cases t with
  | l ws =>
    cases h
    obtain ⟨a, xs, rfl, _, h2, _⟩ := r
    exact .base (.lst h2)
  | w y =>
    cases y with
    | non => cases h; cases rep_non r; exact .base .non
    | bl b => cases h; cases rep_bl r; exact .base (.bl b)
    | int b => cases h; cases rep_int r; exact .base (.int b)
    | str b => cases h; cases rep_str r; exact .base (.str b)
    | tup ws =>
      cases h
      simp only [TRep, Rep] at r
      obtain ⟨a, xs, rfl, q, _⟩ := r
      rcases q with (q | ⟨o, q⟩) | ⟨o, its, n, q, q2, _⟩
      · exact .base (.tup q)
      · exact .fTuple q
      · exact .kTuple q q2
    | rol ws =>
      cases h
      simp only [TRep, Rep] at r
      obtain ⟨a, xs, rfl, q, _⟩ := r
      rcases q with ⟨o, q⟩ | ⟨o, its, n, q, q2, _⟩
      · exact .base (.frz q)
      · exact .kList q q2
    | loc m =>
      simp only [tyN] at h
      split at h
      · rename_i ws hm
        cases h
        obtain ⟨a, xs, q1, q2, _⟩ := s.lst hm
        cases loc_rep (g := g) (H := H) r q1
        exact .base (.lst q2)
      · rename_i kvs hm
        cases h
        have hl : m < φ.length := by rw [s.len]; exact (List.getElem?_eq_some_iff.mp hm).1
        have q := s.at_ m _ _ (List.getElem?_eq_getElem hl) hm
        cases loc_rep (g := g) (H := H) r (List.getElem?_eq_getElem hl)
        rcases q with ⟨ks, xs, _, _, q, _⟩ | ⟨ks, xs, _, _, q, _⟩
        · exact .base (.dK q)
        · exact .base (.dT q)
      · cases h
    | exn c ns ws => cases h
def m_isi (a : ME) (bs : List String) : ME := fun ρ S => (a ρ S).bind fun t S1 => match tyN t S1 with
  | some n => .ok (.w (.bl (bs.any (isSub n)))) S1
  | none => .no
section
variable {X : Cx} {Z : WX} {a : Expr} {ma : ME} {pos p p1 pt : Pos}
/-- names of built-in types, as arguments -/
abbrev tTys (bs : List String) : TA := fun _ H Q => Q (bs.map V.ty) H
theorem pa_tys_nil : PA X [] (tTys []) := pa_nil
theorem pe_tyn {b : String} {x : Str} {pos : Pos} (hg : Gl X x) (hm : X.mg x = none) (hv : bootBuiltins x = some (.type b)) (hn : x ≠ "__name__" := by decide) (hd : (x == ("__debug__" : Str)) = false := by decide) : PE X (.Name x pos) (tC (.ty b)) := pe_bltn (v := .ty b) hg hm hv rfl hn hd
theorem pa_tys_cons {b : String} {bs : List String} {e : Expr} {es : List Expr} (h : PE X e (tC (.ty b))) (hr : PA X es (tTys bs)) (hs : starEach (e :: es) X.env = (false, eval e X.env) :: starEach es X.env := by rfl) : PA X (e :: es) (tTys (b :: bs)) :=
  (pa_cons h hr hs).imp fun σ H Q h => h
theorem se_isi1 {b : String} {t : Expr} (hg : Gl X "isinstance") (hm : X.mg "isinstance" = none) (hb : b ∈ ["bool", "int", "str", "tuple", "list", "dict"]) (ha : SE X Z a ma) (ht : PE X t (tC (.ty b)))
    (he : starEach [a, t] X.env = (false, eval a X.env) :: starEach [t] X.env := by rfl) (he2 : starEach [t] X.env = (false, eval t X.env) :: starEach [] X.env := by rfl) (hpl : (backTo pos (starEach [t] X.env)).any (·.1) = false := by rfl) :
    SE X Z (.Call (.Name "isinstance" p) [a, t] [] pos) (m_isi ma [b]) :=
  (pe_callB call_isi hg hm (by decide +kernel) (pa_cons ha (pa_cons ht pa_nil he2) he) (by decide) (by decide) he hpl).imp fun σ H Q h => by
    obtain ⟨φ, S, ρ, s, e, p⟩ := h
    refine ⟨φ, S, ρ, s, e, (PostG.bind (rep := repE (gd X)) p).mono fun x H1 ⟨t, S1, φ1, e1, s1, r1, p1⟩ => ?_⟩
    split at p1
    · rename_i n hn
      refine ⟨x, .ty b, .type n, .type b, isSub n b, rfl, .ty b, tyN_ok s1 r1.1 hn, kit_sub (tyN_mem hn) hb X.K, ?_⟩
      have e2 : [b].any (isSub n) = isSub n b := by simp
      rw [e2] at p1
      exact fin_bl p1 s1
    · exact p1.elim
theorem kitAny_subs {n : String} (K : PySem.W.Frag) (hn : n ∈ tyNames) : ∀ bs : List String, (∀ b ∈ bs, b ∈ ["bool", "int", "str", "tuple", "list", "dict"]) → PySem.W.kitAny K (.type n) (bs.map Value.type) = some (bs.any (isSub n))
  | [], _ => rfl
  | b :: bs, h => by
    have h1 := kit_sub hn (h b List.mem_cons_self) K
    have h2 := kitAny_subs K hn bs fun c hc => h c (List.mem_cons_of_mem _ hc)
    simp only [List.map_cons, List.any_cons]
    refine kitAny_cons h1 (fun q => ?_) (fun q => ?_)
    · rw [h2, q]; rfl
    · rw [q]; rfl
theorem clsVs : ∀ bs : List String, Paired ClsV (bs.map V.ty) (bs.map Value.type)
  | [] => .nil
  | b :: bs => .cons (.ty b) (clsVs bs)
theorem se_isiN {bs : List String} {es : List Expr} {kk : Nat} (hg : Gl X "isinstance") (hm : X.mg "isinstance" = none) (hb : ∀ b ∈ bs, b ∈ ["bool", "int", "str", "tuple", "list", "dict"]) (hz : bs.length ≤ 1000) (ha : SE X Z a ma) (ht : PA X es (tTys bs))
    (he : starEach [a, .Tuple es kk pt] X.env = (false, eval a X.env) :: starEach [.Tuple es kk pt] X.env := by rfl) (he2 : starEach [.Tuple es kk pt] X.env = (false, eval (.Tuple es kk pt) X.env) :: starEach [] X.env := by rfl) (hpl : (backTo pos (starEach [.Tuple es kk pt] X.env)).any (·.1) = false := by rfl) :
    SE X Z (.Call (.Name "isinstance" p) [a, .Tuple es kk pt] [] pos) (m_isi ma bs) :=
  (pe_callB call_isiT hg hm (by decide +kernel) (pa_cons ha (pa_cons (pe_tup ht) pa_nil he2) he) (by decide) (by decide) he hpl).imp fun σ H Q h => by
    obtain ⟨φ, S, ρ, s, e, p⟩ := h
    refine ⟨φ, S, ρ, s, e, (PostG.bind (rep := repE (gd X)) p).mono fun x H1 ⟨t, S1, φ1, e1, s1, r1, p1⟩ => ?_⟩
    split at p1
    · rename_i n hn
      refine ⟨by rw [List.length_map, sizeLine_eq]; omega, fun q hq => ?_⟩
      have e2 := s1.newE (.tup (bs.map V.ty)) hq
      have s2 := s1.newS (.tup (bs.map V.ty)) hq
      refine ⟨x, q, bs.map V.ty, .type n, bs.map Value.type, bs.any (isSub n), rfl, upd_same, clsVs bs, tyN_ok s2 (r1.1.mono s1 e2) hn, kitAny_subs X.K (tyN_mem hn) bs hb, ?_⟩
      exact p1.at_ e2 s2 ⟨by simp only [TRep, Rep], trivial⟩
    · exact p1.elim
end
end Ev

set_option Elab.async false
set_option linter.all false
set_option maxRecDepth 100000
set_option maxHeartbeats 2000000
/-! Ev8: a, b = x, y; exceptions of the package's classes. -/
namespace Ev
open PySem PySem.Spec PyProof.Rows L2

section
variable {X : Cx} {Z : WX} {m : MA}
def setAll : List Nat → List W → Rho → Option Rho
  | [], [], ρ => some ρ
  | i :: is, w :: ws, ρ => setAll is ws (ρ.set i (some w))
  | _, _, _ => none
def s_par (is : List Nat) (m : MA) : MS := fun ρ S => (m ρ S).thenS ρ fun ws S1 => match setAll is ws ρ with
  | some ρ' => .next ρ' S1
  | none => .no
theorem ss_par2 {i j : Nat} {x y : Str} {a b : Expr} {px py pt pos : Pos} {kt k2 pt2} (hc : X.calm = true) (hN : X.N.Nodup) (hi : X.N[i]? = some x) (hj : X.N[j]? = some y) (hij : i ≠ j)
    (hx : X.env.scope.names.lookup x = some .local) (hy : X.env.scope.names.lookup y = some .local) (ha : SA X Z [a, b] m)
    (hw : swappedStores [.Tuple [.Name x px, .Name y py] kt pt] (.Tuple [a, b] k2 pt2) X.env = pure (some [x, y]))
    (hs : swapsWithSole [.Tuple [.Name x px, .Name y py] kt pt] (.Tuple [a, b] k2 pt2) pos.line X.env = pure false := by rfl) :
    SS X Z (.Assign [.Tuple [.Name x px, .Name y py] kt pt] (.Tuple [a, b] k2 pt2) pos) (s_par [i, j] m) := (ps_par hc hN hi hj hij hx hy ha hw hs).imp fun D σ H h => by
  obtain ⟨φ, S, ρ, s, e, p⟩ := h
  refine ⟨φ, S, ρ, s, e, (PostS.thenS (rep := repA (gd X)) p s e).mono fun vs H1 ⟨ws, S1, φ1, e1, s1, r1, p1⟩ => ?_⟩
  match ws, r1, p1 with
  | [w1, w2], r1, p1 =>
    simp only [Reps] at r1
    obtain ⟨v1, r, rfl, q1, v2, r', rfl, q2, rfl⟩ := r1
    exact ⟨v1, v2, rfl, p1 _ H1 φ1 (.refl _ _) s1 (((e.mono s e1).set q1.sl i).set q2.sl j)⟩
  | [], r1, p1 => exact p1.elim
  | [_], r1, p1 => exact p1.elim
  | _ :: _ :: _ :: _, r1, p1 => exact p1.elim
theorem ss_par3 {i j l : Nat} {x y z : Str} {a b c : Expr} {px py pz pt pos : Pos} {kt k2 pt2} (hc : X.calm = true) (hN : X.N.Nodup) (hi : X.N[i]? = some x) (hj : X.N[j]? = some y) (hl : X.N[l]? = some z) (hij : i ≠ j) (hil : i ≠ l) (hjl : j ≠ l)
    (hx : X.env.scope.names.lookup x = some .local) (hy : X.env.scope.names.lookup y = some .local) (hz : X.env.scope.names.lookup z = some .local) (ha : SA X Z [a, b, c] m)
    (hw : swappedStores [.Tuple [.Name x px, .Name y py, .Name z pz] kt pt] (.Tuple [a, b, c] k2 pt2) X.env = pure (some [x, y, z]))
    (hs : swapsWithSole [.Tuple [.Name x px, .Name y py, .Name z pz] kt pt] (.Tuple [a, b, c] k2 pt2) pos.line X.env = pure false := by rfl) :
    SS X Z (.Assign [.Tuple [.Name x px, .Name y py, .Name z pz] kt pt] (.Tuple [a, b, c] k2 pt2) pos) (s_par [i, j, l] m) := (ps_par3 hc hN hi hj hl hij hil hjl hx hy hz ha hw hs).imp fun D σ H h => by
  obtain ⟨φ, S, ρ, s, e, p⟩ := h
  refine ⟨φ, S, ρ, s, e, (PostS.thenS (rep := repA (gd X)) p s e).mono fun vs H1 ⟨ws, S1, φ1, e1, s1, r1, p1⟩ => ?_⟩
  match ws, r1, p1 with
  | [w1, w2, w3], r1, p1 =>
    simp only [Reps] at r1
    obtain ⟨v1, r, rfl, q1, v2, r', rfl, q2, v3, r'', rfl, q3, rfl⟩ := r1
    exact ⟨v1, v2, v3, rfl, p1 _ H1 φ1 (.refl _ _) s1 ((((e.mono s e1).set q1.sl i).set q2.sl j).set q3.sl l)⟩
  | [], r1, p1 => exact p1.elim
  | [_], r1, p1 => exact p1.elim
  | [_, _], r1, p1 => exact p1.elim
  | _ :: _ :: _ :: _ :: _, r1, p1 => exact p1.elim
end
/-! ### the package's classes of errors -/
/-- NoteError, at C0: its base's maker -/
structure BaseErr (K : PySem.W.Frag) (mg : Str → Option Value) (C0 : Addr) : Prop where
  g0 : mg "NoteError" = some (.ref C0)
  ga : PySem.W.specialIn K (.ref C0) "__getattribute__" = some (some (.builtin "type.__getattribute__"))
  rd : PySem.W.readsIn K C0 (.type "type") = true
  fi : PySem.W.findCls K (.ref C0) (.type "type") "__init__" = some (.val (.builtin "ValueError.__init__"))
section
variable {X : Cx} {o e : Expr} {es : List Expr} {to te : TE} {ta : TA} {f : Str} {p p' p1 p2 pos : Pos}
/-- NoteError.__init__(self, ..) -/
theorem pe_cinit {C0 : Addr} {pl : Sem Bool} (B : BaseErr X.K X.mg C0) (hg : Gl X "NoteError") (ha : PA X (e :: es) ta)
    (hc : eval (.Call (.Attribute (.Name "NoteError" p1) "__init__" p2) (e :: es) [] pos) X.env = (do
      let ov ← eval (.Name "NoteError" p1) X.env
      standAt p2.atName
      let (f, first) ← holding [ov] (getMethod ov "__init__" pl)
      callWith pos f first (backTo pos (starEach (e :: es) X.env)) (backToKw pos (keywordEach [] X.env))) := by rfl)
    (he : starEach (e :: es) X.env = (false, eval e X.env) :: starEach es X.env := by rfl) (hpl : (backTo pos (starEach es X.env)).any (·.1) = false := by rfl) :
    PE X (.Call (.Attribute (.Name "NoteError" p1) "__init__" p2) (e :: es) [] pos) (tVeI X.K ta) := by
  refine ⟨fun pins s σ H Q I h => ?_⟩
  refine PySem.W.methodCall_KW (ld_glob I hg B.g0 ?_ (by decide)) hc
  obtain ⟨m, fr⟩ := I.fr
  refine PySem.W.method_of_cls fr I.ok.mod.kin B.ga (PySem.W.cls_value I.kIn B.rd B.fi (by decide +kernel) ?_)
  show wpAny _ _ (callWith pos (Value.builtin "ValueError.__init__") [] (backTo pos (starEach (e :: es) X.env)) []) _ _ _
  refine PyProof.Rows.callWith_method1 (thn (ha.run pos pins _ σ H _ (I.tok _) h) fun us s1 ⟨vs, H1, I1, r1, a, C, ws, ev, hl, T, ea, q⟩ => ?_) he hpl
  subst ev
  cases r1 with
  | @cons _ u0 _ ur ra rw' =>
    obtain rfl : u0 = Value.ref a := ra
    have hlen : ur.length ≤ sizeLine := by
      rw [← Paired.length rw', sizeLine_eq]
      omega
    exact oinit_ok T I1 ea hlen fun s' J => ⟨.non, H1, J, rfl, q⟩
end
/-- what __init__ of such a class does, by its fields -/
def spI (C : Addr) (fs : List Str) : Sp := fun vs H Q _ => ∃ a xs, vs = V.ref a :: xs ∧ xs.length = fs.length ∧ H a = some (exo a C none) ∧ match fs, xs with
  | [], [] => Q .non H
  | [f], [x] => ∀ dx, H dx = none → dx ≠ a → Q .non (upd (upd H dx (exd dx [(f, x)])) a (exo a C (some dx)))
  | [f, g], [x, y] => ∀ dx, H dx = none → dx ≠ a → Q .non (upd (upd (upd H dx (exd dx [(f, x)])) a (exo a C (some dx))) dx (exd dx [(g, y), (f, x)]))
  | _, _ => False
theorem spI_len {C : Addr} {fs : List Str} {vs : List V} {H : Hp} {Q : VK} {E : XK} (h : spI C fs vs H Q E) : vs.length = fs.length + 1 := by
  obtain ⟨a, xs, rfl, hl, _⟩ := h
  simp [hl]
/-- the reading of __init__'s body -/
def tI (K : PySem.W.Frag) (tx : Str) : List Str → TS
  | [] => tDrop (tVeI K (tCons (tVar 0) (tCons (tC (.str tx)) tNil)))
  | [f] => tSeq (tDrop (tVeI K (tCons (tVar 0) (tCons (tC (.str tx)) tNil)))) (tOst K f (tVar 0) (tVar 1))
  | [f, g] => tSeq (tDrop (tVeI K (tCons (tVar 0) (tCons (tC (.str tx)) tNil)))) (tSeq (tOst K f (tVar 0) (tVar 1)) (tOst K g (tVar 0) (tVar 2)))
  | _ => tNever
theorem exo_eq {H : Hp} {a dx C : Addr} {u o : HO} (hne : dx ≠ a) : upd (upd H dx u) a o a = some o := upd_same
theorem one_le {α : Type} {x : α} : [x].length ≤ 1000 := by show 1 ≤ 1000; decide
theorem one_le9 {α : Type} {x : α} : [x].length ≤ 900 := by show 1 ≤ 900; decide
theorem tI_ok {K : PySem.W.Frag} {C : Addr} {tx : Str} {fs : List Str} {N : List Str} {vs : List V} {H : Hp} {Q : VK} {E : XK} (T : OexC K C) (hn : ∀ f ∈ fs, PySem.W.findIn K (.ref C) f = some none) (h : spI C fs vs H Q E) :
    tI K tx fs { nx := fun _ H' => Q .non H', rt := Q } (L2.start N vs) H := by
  obtain ⟨a, xs, rfl, hl, ha, h⟩ := h
  match fs, xs, hl, h, hn with
  | [], [], _, h, _ => exact ⟨_, rfl, ⟨a, C, [.str tx], rfl, one_le, T, ha, h⟩⟩
  | [f], [x], _, h, hn =>
    refine ⟨_, rfl, ⟨a, C, [.str tx], rfl, one_le, T, ha, ?_⟩⟩
    exact ⟨x, rfl, _, rfl, a, C, rfl, T, hn f (by simp), .inl ⟨ha, fun dx h1 h2 => h dx h1 h2⟩⟩
  | [f, g], [x, y], _, h, hn =>
    refine ⟨_, rfl, ⟨a, C, [.str tx], rfl, one_le, T, ha, ?_⟩⟩
    refine ⟨x, rfl, _, rfl, a, C, rfl, T, hn f (by simp), .inl ⟨ha, fun dx h1 h2 => ?_⟩⟩
    refine ⟨y, rfl, _, rfl, a, C, rfl, T, hn g (by simp), .inr ⟨dx, [(f, x)], upd_same, ?_, one_le9, h dx h1 h2⟩⟩
    rw [upd_ne h2, upd_same]
/-- what is known of a class of errors with fields fs -/
structure ErrC (P : Program) (w : World) (K : PySem.W.Frag) (mg : Str → Option Value) (base : Heap) (c : Str) (fs : List Str) (C : Addr) : Prop where
  g : mg c = some (.ref C)
  ox : OexC K C
  nd : fs.Nodup
  nof : ∀ f ∈ fs, PySem.W.findIn K (.ref C) f = some none
  ini : ∃ (fI : Addr) (fd : FuncData) (ps : List Str), PySem.W.findIn K (.ref C) "__init__" = some (some (.ref fI)) ∧ PySem.W.typeIn K (.ref fI) = some (.type "function") ∧ FnOk P w K mg base CX0 1 fI fd ps (spI C fs) ∧ Binds K fd ps [] ∧ fs.length ≤ 2
section
variable {X : Cx} {x : Str} {e : Expr} {es : List Expr} {ta : TA} {p pos : Pos} {C : Addr} {fs : List Str}
/-- what C(..) leaves: no dict where there are no fields -/
def xdQ (C : Addr) (Q : XK) (H1 : Hp) : List Str → List V → Prop
  | [], [] => Q (.ref C) none H1
  | [f], [x] => ∀ d, H1 d = none → Q (.ref C) (some d) (upd H1 d (.xd [(f, x)]))
  | [f, g], [x, y] => ∀ d, H1 d = none → Q (.ref C) (some d) (upd H1 d (.xd [(g, y), (f, x)]))
  | _, _ => False
def tMkN (C : Addr) (fs : List Str) (ta : TA) : St → Hp → XK → Prop := fun σ H Q => ta σ H fun vs H1 => vs.length = fs.length ∧ xdQ C Q H1 fs vs
theorem del_upd_upd {H : Hp} {a d : Addr} {o u v : HO} (ha : H a = none) (hd : d ≠ a) : upd (del (upd (upd (upd H a o) d u) a v) a) d w' = upd H d w' := by
  funext b
  by_cases hb : b = d
  · subst hb; rw [upd_same, upd_same]
  · rw [upd_ne hb, upd_ne hb]
    by_cases hba : b = a
    · subst hba; rw [del_same, ha]
    · rw [del_ne hba, upd_ne hba, upd_ne hb, upd_ne hba]
theorem spI_make {C : Addr} {fs : List Str} {vs : List V} {H1 : Hp} {a : Addr} {Q : XK} {E : XK} (hn : H1 a = none) (hz : vs.length = fs.length) (h0 : fs ≠ []) (q1 : xdQ C Q H1 fs vs) : spI C fs (V.ref a :: vs) (upd H1 a (exo a C none))
      (fun v H2 => v = .non ∧ ∃ (d : Addr) (fs : List (Str × V)), H2 a = some (exo a C (some d)) ∧ H2 d = some (exd d fs) ∧ H1 d = none ∧ Q (.ref C) (some d) (upd (del H2 a) d (.xd fs))) E := by
  refine ⟨_, vs, rfl, hz, upd_same, ?_⟩
  match fs, vs, hz, q1, h0 with
  | [f], [x], _, q1, _ =>
    intro dx n1 n2
    have n1' : H1 dx = none := by rw [upd_ne n2] at n1; exact n1
    refine ⟨rfl, dx, [(f, x)], upd_same, by rw [upd_ne n2, upd_same], n1', ?_⟩
    rw [del_upd_upd hn n2]
    exact q1 dx n1'
  | [f, g], [x, y], _, q1, _ =>
    intro dx n1 n2
    have n1' : H1 dx = none := by rw [upd_ne n2] at n1; exact n1
    refine ⟨rfl, dx, [(g, y), (f, x)], by rw [upd_ne (Ne.symm n2), upd_same], upd_same, n1', ?_⟩
    have e3 : upd (upd (upd (upd H1 a (exo a C none)) dx (exd dx [(f, x)])) a (exo a C (some dx))) dx (exd dx [(g, y), (f, x)]) =
        upd (upd (upd H1 a (exo a C none)) dx (exd dx [(g, y), (f, x)])) a (exo a C (some dx)) := by
      funext b
      by_cases h1 : b = dx
      · subst h1; rw [upd_same, upd_ne n2, upd_same]
      · rw [upd_ne h1]
        by_cases h2 : b = a
        · rw [h2, upd_same, upd_same]
        · simp only [upd, if_neg h1, if_neg h2]
    rw [e3, del_upd_upd hn n2]
    exact q1 dx n1'
theorem pmkN {k : Nat} (E1 : ErrC X.prog X.w X.K X.mg X.base x fs C) (h0 : fs ≠ []) (hr : Room (k + 2) X.A) (hg : Gl X x) (ha : PA X (e :: es) ta)
    (hdb : (x == ("__debug__" : Str)) = false := by decide) (he : starEach (e :: es) X.env = (false, eval e X.env) :: starEach es X.env := by rfl) (hpl : (backTo pos (starEach es X.env)).any (·.1) = false := by rfl) :
    L2N.PMk X (.Call (.Name x p) (e :: es) [] pos) (tMkN C fs ta) := by
  intro pins s σ H Q I h
  obtain ⟨T, ⟨fI, fd, ps, iC, tI', F1, hb, hfs⟩⟩ := And.intro E1.ox E1.ini
  obtain ⟨nm, q, N, bs, bm, sn, sub, ab, col, dd, k0, k1, k2, k3, k5, hC, hbm⟩ := T.cls
  refine wpAny_Call_Name_kw (ld_glob I hg E1.g ?_ hdb)
  refine PySem.W.callWith_K (h₀ := X.base) I.ok.mod.kin T.kC (thn (ha.run pos pins s σ H _ I h) fun us s1 ⟨vs, H1, I1, r1, hz, q1⟩ => ⟨I1.kIn, ?_⟩) he hpl
  show wpAny _ _ (call (.ref C) us) _ _ _
  obtain ⟨hp, g, dr, tk, os⟩ := s1
  have hsz : hp.objs.size ≤ hp.objs.size + 1 := Nat.le_succ _
  have hn : H1 (hp.objs.size + 1) = none := I1.hok.fresh hsz
  have kk : ∀ b o, hp.get? b = some o → ((hp.push (PySem.W.kdv_tup us)).push (PySem.HandSPX.excO C hp.objs.size)).get? b = some o := fun b o e => Heap.get?_push_of_some _ (Heap.get?_push_of_some _ e)
  have hget : ((hp.push (PySem.W.kdv_tup us)).push (PySem.HandSPX.excO C hp.objs.size)).get? (hp.objs.size + 1) = some (PySem.HandSPX.excO C hp.objs.size) := by heap_get
  have I2 : Inv X pins σ (upd H1 (hp.objs.size + 1) (exo (hp.objs.size + 1) C none)) ⟨(hp.push (PySem.W.kdv_tup us)).push (PySem.HandSPX.excO C hp.objs.size), g, dr, tk, os⟩ :=
    I1.laid (t' := tk) (a := hp.objs.size + 1) (o := exo (hp.objs.size + 1) C none) (h' := (hp.push (PySem.W.kdv_tup us)).push (PySem.HandSPX.excO C hp.objs.size)) kk hsz (exo_ok hget)
  have r2 : Vals (V.ref (hp.objs.size + 1) :: vs) (Value.ref (hp.objs.size + 1) :: us) := .cons rfl r1
  have hq : spI C fs (V.ref (hp.objs.size + 1) :: vs) (upd H1 (hp.objs.size + 1) (exo (hp.objs.size + 1) C none))
      (fun v H2 => v = .non ∧ ∃ (d : Addr) (fs : List (Str × V)), H2 (hp.objs.size + 1) = some (exo (hp.objs.size + 1) C (some d)) ∧ H2 d = some (exd d fs) ∧ H1 d = none ∧ Q (.ref C) (some d) (upd (del H2 (hp.objs.size + 1)) d (.xd fs))) (fun _ _ _ => False) := spI_make hn hz h0 q1
  have hl : (Value.ref (hp.objs.size + 1) :: us ++ []).length = ps.length := by
    have e := r2.length
    rw [F1.len _ _ _ _ hq] at e
    rw [List.append_nil]
    exact e.symm
  have hus : us.length ≤ sizeLine := by
    rw [← Paired.length r1, hz, sizeLine_eq]
    omega
  have b2 := hb _ (Value.ref (hp.objs.size + 1) :: us) I2.kIn hl
  rw [List.append_nil] at b2
  have hr1 : Room 1 (X.A.under (.builtin "type.__call__" ⟨.ref C :: us, []⟩)) := (hr.mono (by omega : 2 ≤ k + 2)).make C us []
  refine wpAny_call (PySem.HandSPX.call_own F.excBase_ValueError (fun Y => PySem.HandSPX.refsVE_contains Y bm hbm) (I1.kIn _ _ hC) (PySem.W.looks_findIn I1.kIn iC) (fun self => PySem.W.bind_fn I1.kIn self tI') hus
    (codeAny_mono (F1.run _ X.stack _ _ ⟨Value.ref (hp.objs.size + 1) :: us, []⟩ (Value.ref (hp.objs.size + 1) :: us) _ _ (fun _ _ _ => False) hr1 (I2.env0.make C us []) b2 r2 hq) fun r s' hq' => ?_))
  cases r with
  | error er => exact hq'.elim
  | ok fl =>
    cases fl with
    | ret u =>
      obtain ⟨v, H2, os2, bare2, un2, hok2, rv, ev, d, fs', ea, ed, hd1, q2⟩ := hq'
      subst ev
      obtain ⟨h2, g2, d2, t2, os'⟩ := s'
      obtain ⟨t0, G, J, kG, ge, hoe, na⟩ := mk_end0 (d2 := d2) (t2 := t2) I1 hsz kk un2 hok2 os2 bare2 ea ed hd1
      refine ⟨rv, ⟨hp.objs.size + 1, _, _, ⟨G, g2, d2, t2, os'⟩, _, .ref C, some d, rfl, J, kG, ge, hoe, ⟨rfl, rfl, fun vs hv => ?_⟩, rfl, rfl, na, rfl, bare2, raises_own T.exC T.tyC, q2⟩⟩
      cases hv
      rfl
    | next => exact False.elim hq'
    | brk => exact False.elim hq'
    | cont => exact False.elim hq'
end
/-! ### raise -/
def s_raise (c : Str) (ns : List Str) (m : MA) : MS := fun ρ S => (m ρ S).thenS ρ fun ws S1 => if ws.length = ns.length then .exc c ns ws ρ S1 else .no
section
variable {X : Cx} {Z : WX} {x : Str} {e : Expr} {es : List Expr} {m : MA} {p pos pos2 : Pos} {C : Addr} {fs : List Str}
theorem new_xd {g : Gd} {H : Hp} {φ : List Addr} {S : Store} (s : SRep g H φ S) {d : Addr} (hd : H d = none) (o : HO) : Ext H φ (upd H d o) φ ∧ SRep g (upd H d o) φ S := ⟨s.newE o hd, s.newS o hd⟩
theorem mkN_ok {g : Gd} {C : Addr} {fs : List Str} {ws : List W} {vs : List V} {H1 : Hp} {φ1 : List Addr} {S1 : Store} {Q : XK} (s1 : SRep g H1 φ1 S1) (nd : fs.Nodup) (h0 : fs ≠ []) (h2 : fs.length ≤ 2) (hl : ws.length = fs.length) (r : Reps g H1 φ1 ws vs)
    (q : ∀ d H', Ext H1 φ1 H' φ1 → SRep g H' φ1 S1 → XRep g H' φ1 d fs ws → Q (.ref C) d H') :
    vs.length = fs.length ∧ xdQ C Q H1 fs vs := by
  refine ⟨by rw [← r.length]; exact hl, ?_⟩
  match fs, ws, hl, r, h0, h2, nd, q with
  | [f], [w1], _, r1, _, _, _, q =>
    simp only [Reps] at r1
    obtain ⟨v1, r, rfl, q1, rfl⟩ := r1
    intro d hd
    obtain ⟨ee, ss⟩ := new_xd s1 hd (.xd [(f, v1)])
    refine q (some d) _ ee ss (.inr ⟨d, _, [v1], rfl, upd_same, Reps.one (Rep.mono s1 ee _ _ q1), fun i n y h1 h2 => ?_⟩)
    match i, h1, h2 with
    | 0, h1, h2 =>
      simp only [List.getElem?_cons_zero, Option.some.injEq] at h1 h2
      subst h1; subst h2
      simp [List.lookup]
  | [f, g], [w1, w2], _, r1, _, _, nd, q =>
    simp only [Reps] at r1
    obtain ⟨v1, r, rfl, q1, v2, r', rfl, q2, rfl⟩ := r1
    intro d hd
    obtain ⟨ee, ss⟩ := new_xd s1 hd (.xd [(g, v2), (f, v1)])
    refine q (some d) _ ee ss (.inr ⟨d, _, [v1, v2], rfl, upd_same, Reps.cons (Rep.mono s1 ee _ _ q1) (Reps.one (Rep.mono s1 ee _ _ q2)), fun i n y h1 h2 => ?_⟩)
    have hfg : f ≠ g := by
      intro z; subst z
      simp at nd
    match i, h1, h2 with
    | 0, h1, h2 =>
      simp only [List.getElem?_cons_zero, Option.some.injEq] at h1 h2
      subst h1; subst h2
      have : (f == g) = false := by simpa using hfg
      simp [List.lookup, this]
    | 1, h1, h2 =>
      simp only [List.getElem?_cons_zero, List.getElem?_cons_succ, Option.some.injEq] at h1 h2
      subst h1; subst h2
      simp [List.lookup]
  | _ :: _ :: _ :: _, _, _, _, _, h2, _, _ => simp at h2
theorem ss_raise {k : Nat} (E1 : ErrC X.prog X.w X.K X.mg X.base x fs C) (h0 : fs ≠ []) (hr : Room (k + 2) X.A) (hc : X.calm = true) (tk : L2N.Takes X Z) (hg : Gl X x) (ha : SA X Z (e :: es) m)
    (hdb : (x == ("__debug__" : Str)) = false := by decide) (he : starEach (e :: es) X.env = (false, eval e X.env) :: starEach es X.env := by rfl) (hpl : (backTo pos (starEach es X.env)).any (·.1) = false := by rfl) :
    SS X Z (.Raise (some (.Call (.Name x p) (e :: es) [] pos)) none pos2) (s_raise x fs m) := (L2N.ps_raise hc tk (pmkN (k := k) E1 h0 hr hg ha hdb he hpl)).imp fun D σ H h => by
  obtain ⟨φ, S, ρ, s, e, p⟩ := h
  refine ⟨φ, S, ρ, s, e, (PostS.thenS (rep := repA (gd X)) p s e).mono fun vs H1 ⟨ws, S1, φ1, e1, s1, r1, p1⟩ => ?_⟩
  split at p1
  rotate_left
  · exact p1.elim
  rename_i hl
  have e' := e.mono s e1
  obtain ⟨_, _, _, _, _, _, _, h2⟩ := E1.ini
  exact mkN_ok (Q := fun cls d H' => Z cls d σ H') s1 E1.nd h0 h2 hl r1 fun d H' ee ss xx => p1 C d σ H' φ1 ee ss (e'.mono s1 ee) E1.g xx
end
end Ev

set_option Elab.async false
set_option linter.all false
set_option maxRecDepth 100000
set_option maxHeartbeats 2000000
/-! Ev9: try .. except X as n; the suite: isinstance(e, ..), e.f. -/
namespace Ev
open PySem PySem.Spec PyProof.Rows L2

/-! ### the handled exception does not matter to values -/
section
variable {K : PySem.W.Frag} {mg : Str → Option Value} {h1 h2 : Option (Addr × Obj)} {H : Hp} {φ : List Addr}
mutual
theorem Rep.hp : ∀ (w : W) (v : V), Rep ⟨K, mg, h1⟩ H φ w v → Rep ⟨K, mg, h2⟩ H φ w v
  | .non, _, h => by simpa only [Rep] using h
  | .bl b, _, h => by simpa only [Rep] using h
  | .int i, _, h => by simpa only [Rep] using h
  | .str x, _, h => by simpa only [Rep] using h
  | .tup ws, v, h => by
    simp only [Rep] at h ⊢
    obtain ⟨a, xs, q1, q2, q3⟩ := h
    exact ⟨a, xs, q1, q2, Reps.hp ws xs q3⟩
  | .loc n, v, h => by simpa only [Rep] using h
  | .rol ws, v, h => by
    simp only [Rep] at h ⊢
    obtain ⟨a, xs, q1, q2, q3⟩ := h
    exact ⟨a, xs, q1, q2, Reps.hp ws xs q3⟩
  | .exn c ns ws, v, h => by simp only [Rep] at h
theorem Reps.hp : ∀ (ws : List W) (xs : List V), Reps ⟨K, mg, h1⟩ H φ ws xs → Reps ⟨K, mg, h2⟩ H φ ws xs
  | [], _, h => by simpa only [Reps] using h
  | w :: ws, xs, h => by
    simp only [Reps] at h ⊢
    obtain ⟨x, r, q1, q2, q3⟩ := h
    exact ⟨x, r, q1, Rep.hp w x q2, Reps.hp ws r q3⟩
end
theorem ORep.hp {a : Addr} {o : LO} (h : ORep ⟨K, mg, h1⟩ H φ a o) : ORep ⟨K, mg, h2⟩ H φ a o := by
  cases o with
  | lst ws => obtain ⟨xs, e, r⟩ := h; exact ⟨xs, e, Reps.hp _ _ r⟩
  | ins c ns ws => obtain ⟨C, dx, xs, q1, q2, q3, q4⟩ := h; exact ⟨C, dx, xs, q1, q2, q3, Reps.hp _ _ q4⟩
  | dic kvs =>
    rcases h with ⟨ks, xs, q1, q2, q3, q4⟩ | ⟨ks, xs, q1, q2, q3, q4⟩
    · exact .inl ⟨ks, xs, q1, q2, q3, Reps.hp _ _ q4⟩
    · exact .inr ⟨ks, xs, q1, q2, q3, Reps.hp _ _ q4⟩
  | dicL kvs =>
    obtain ⟨o, ⟨ks, xs, q1, q2, q3, q4⟩ | ⟨ks, xs, q1, q2, q3, q4⟩⟩ := h
    · exact ⟨o, .inl ⟨ks, xs, q1, q2, q3, Reps.hp _ _ q4⟩⟩
    · exact ⟨o, .inr ⟨ks, xs, q1, q2, q3, Reps.hp _ _ q4⟩⟩
theorem SRep.hp {S : Store} (s : SRep ⟨K, mg, h1⟩ H φ S) : SRep ⟨K, mg, h2⟩ H φ S := ⟨s.len, s.nd, fun i a o q1 q2 => (s.at_ i a o q1 q2).hp⟩
theorem XRep.hp {d : Option Addr} {ns : List Str} {ws : List W} (h : XRep ⟨K, mg, h1⟩ H φ d ns ws) : XRep ⟨K, mg, h2⟩ H φ d ns ws := by
  rcases h with h | ⟨dd, fs, xs, q1, q2, q3, q4⟩
  · exact .inl h
  · exact .inr ⟨dd, fs, xs, q1, q2, Reps.hp _ _ q3, q4⟩
theorem TRepF.hp {H0 : Hp} {t : T} {v : V} (h : TRepF ⟨K, mg, h1⟩ H0 H φ t v) : TRepF ⟨K, mg, h2⟩ H0 H φ t v := by
  cases t with
  | w x => exact ⟨Rep.hp x v h.1, trivial⟩
  | l ws =>
    obtain ⟨⟨a, xs, q1, q2, q3, q4⟩, h5⟩ := h
    exact ⟨⟨a, xs, q1, q2, q3, Reps.hp _ _ q4⟩, h5⟩
def notExn : Option W → Bool
  | some (.exn _ _ _) => false
  | _ => true
theorem SlRep.hp {w : W} {v : V} (hw : notExn (some w) = true) (h : SlRep ⟨K, mg, h1⟩ H φ w v) : SlRep ⟨K, mg, h2⟩ H φ w v := by
  cases w with
  | exn c ns ws => cases hw
  | _ => exact Rep.hp (h1 := h1) _ v h
theorem ERep.calm {ρ : Rho} {σ : St} (h : ERep ⟨K, mg, none⟩ H φ ρ σ) : ERep ⟨K, mg, h2⟩ H φ ρ σ :=
  ⟨h.len, fun i w q => by
    obtain ⟨v, a, b⟩ := h.at_ i w q
    refine ⟨v, a, ?_⟩
    cases w with
    | exn c ns ws => obtain ⟨_, _, _, _, _, z, _⟩ := b; cases z
    | _ => exact Rep.hp (h1 := none) _ v b⟩
theorem ERep.leave {ρ : Rho} {σ : St} (h : ERep ⟨K, mg, h1⟩ H φ ρ σ) (hn : ρ.all notExn = true) : ERep ⟨K, mg, h2⟩ H φ ρ σ :=
  ⟨h.len, fun i w q => by
    obtain ⟨v, a, b⟩ := h.at_ i w q
    exact ⟨v, a, b.hp (List.all_eq_true.mp hn _ (List.mem_of_getElem? q))⟩⟩
end
/-! ### try -/
def endSuite (i : Nat) (r : RS) : RS :=
  match r with
  | .next ρ S => if (ρ.set i none).all notExn = true then .next (ρ.set i none) S else .no
  | .brk ρ S => if (ρ.set i none).all notExn = true then .brk (ρ.set i none) S else .no
  | .cnt ρ S => if (ρ.set i none).all notExn = true then .cnt (ρ.set i none) S else .no
  | .ret t S => .ret t S
  | _ => .no
def s_try (i : Nat) (known caught : List Str) (body suite : MS) : MS := fun ρ S =>
  match body ρ S with
  | .exc c ns ws ρ1 S1 => if c ∈ known then (if c ∈ caught then endSuite i (suite (ρ1.set i (some (.exn c ns ws))) S1) else .exc c ns ws ρ1 S1) else .no
  | r => r
def lSg (g : Gd) (Z : WX) (m : MS) : TS := fun D σ H => ∃ φ S ρ, SRep g H φ S ∧ ERep g H φ ρ σ ∧ PostS g Z H φ (m ρ S) D
theorem ERep.setX {g : Gd} {H : Hp} {φ : List Addr} {ρ : Rho} {σ : St} (h : ERep g H φ ρ σ) (i : Nat) : ERep g H φ (ρ.set i none) (σ.set i none) := by
  refine ⟨by simp [h.len], fun j w q => ?_⟩
  by_cases e : i = j
  · subst e
    rw [List.getElem?_set] at q
    split at q
    · split at q <;> cases q
    · rename_i z; exact absurd rfl z
  · rw [List.getElem?_set_ne e] at q ⊢
    exact h.at_ j w q
section
variable {K : PySem.W.Frag} {mg : Str → Option Value} {hp : Option (Addr × Obj)}
theorem suite_end {Z : WX} {H : Hp} {φ : List Addr} {r : RS} {i : Nat} {D : Ends} (h : PostS ⟨K, mg, none⟩ Z H φ (endSuite i r) D) :
    PostS ⟨K, mg, hp⟩ Zf H φ r { nx := fun σ' H' => D.nx (σ'.set i none) H', rt := D.rt, bk := fun σ' H' => D.bk (σ'.set i none) H', ct := fun σ' H' => D.ct (σ'.set i none) H' } := by
  cases r with
  | next ρ S =>
    simp only [endSuite] at h
    split at h
    · rename_i hn
      exact fun σ H' φ' e s r => h _ H' φ' e s.hp ((r.setX i).leave hn)
    · exact h.elim
  | brk ρ S =>
    simp only [endSuite] at h
    split at h
    · rename_i hn
      exact fun σ H' φ' e s r => h _ H' φ' e s.hp ((r.setX i).leave hn)
    · exact h.elim
  | cnt ρ S =>
    simp only [endSuite] at h
    split at h
    · rename_i hn
      exact fun σ H' φ' e s r => h _ H' φ' e s.hp ((r.setX i).leave hn)
    · exact h.elim
  | ret t S => exact fun v H' φ' e s r => h v H' φ' e s.hp r.hp
  | exc c ns ws ρ S => exact h.elim
  | no => exact h.elim
end
section
variable {X : Cx} {Z : WX} {x n : Str} {c : Value} {i : Nat} {body suite : List Stmt} {b₀ : Stmt} {np pos pos' : Pos} {mb ms : MS} {known caught : List Str}
theorem ss_try (hs : X.stack = X.env :: X.outer) (hf : X.env.frame = some X.env.locals) (hN : X.N.Nodup) (hi : X.N[i]? = some n) (hln : X.env.kindOf n = some .local) (hcn : Names X x c) (hc : X.calm = true) (tk : L2N.Takes X Z)
    (hx : ∀ d ∈ known, ∀ C, X.mg d = some (.ref C) → PySem.W.exmOne X.K (.ref C) c = some (decide (d ∈ caught)))
    (hb : ∀ (W : WX) (pn : List (Addr × Obj)) (xe : Value → Shared → Prop), L2N.Takes (X.tr pn xe) W → PassesOwn (model X.prog X.w) X.A X.env xe → SSs (X.tr pn xe) W body mb)
    (hsu : ∀ (a : Addr) (oe : Obj) (pn : List (Addr × Obj)), L2H.Hot1 (X.suite a ((a, oe) :: pn)).A (a, oe) → SSs (X.suite a ((a, oe) :: pn)) Zf (b₀ :: suite) ms) :
    SS X Z (.Try body [.ExceptHandler (some (.Name x np)) (some n) (b₀ :: suite) pos'] [] [] pos) (s_try i known caught mb ms) := by
  have eg := gd_calm hc
  refine (L2N.ps_try_as (tb := fun W => lSg (gd0 X.K X.mg) W mb) (ts := fun a cls d D σ H => ∀ oe, L2N.Zn cls d oe → (∃ vs, oe.data = .fields vs) → lSg ⟨X.K, X.mg, some (a, oe)⟩ Zf ms D σ H) (Wout := Z) hs hf hN hi hln hcn tk ?_ ?_).imp fun D σ H h => ?_
  · intro W pn xe tk' po
    have := hb W pn xe tk' po
    have e2 : gd (X.tr pn xe) = gd0 X.K X.mg := gd_calm hc
    exact this.imp fun D σ H q => by
      unfold lS
      rw [e2]
      exact q
  · intro a oe cls d pn hz hv
    have hot : L2H.Hot1 (X.suite a ((a, oe) :: pn)).A (a, oe) := ⟨rfl, by obtain ⟨vs, e⟩ := hv; exact ⟨vs, e, hz.2.2 vs e⟩⟩
    exact (hsu a oe pn hot).imp fun D σ H q => q oe hz hv
  · obtain ⟨φ, S, ρ, s, e, p⟩ := h
    rw [eg] at s e p
    refine ⟨φ, S, ρ, s, e, ?_⟩
    unfold s_try at p
    cases hr : mb ρ S with
    | next ρ1 S1 => rw [hr] at p; exact p
    | ret t S1 => rw [hr] at p; exact p
    | brk ρ1 S1 => rw [hr] at p; exact p
    | cnt ρ1 S1 => rw [hr] at p; exact p
    | no => rw [hr] at p; exact p
    | exc d ns ws ρ1 S1 =>
      rw [hr] at p
      simp only at p
      intro C dd σ' H' φ' e1 s1 r1 m1 x1
      split at p
      rotate_left
      · exact p.elim
      rename_i hk
      refine ⟨decide (d ∈ caught), hx d hk C m1, fun hb1 a ha oe hz hv => ?_, fun hb1 => ?_⟩
      · rw [if_pos (of_decide_eq_true hb1)] at p
        refine ⟨φ', S1, ρ1.set i (some (.exn d ns ws)), s1.hp, ?_, suite_end (PostS.later p e1)⟩
        exact (r1.calm).set (show SlRep ⟨X.K, X.mg, some (a, oe)⟩ H' φ' (.exn d ns ws) (.ref a) from ⟨a, oe, C, dd, rfl, rfl, m1, hz, hv, x1.hp⟩) i
      · rw [if_neg (of_decide_eq_false hb1)] at p
        exact p C dd σ' H' φ' e1 s1 r1 m1 x1
end
/-! ### the exception that is handled -/
/-- what isinstance asks of its class -/
structure ExK (K : PySem.W.Frag) (D : Addr) : Prop where
  cl : (PySem.W.clsIn K D).isSome = true
  hg : PySem.W.findIn K (.ref D) "__getattribute__" = some (some (.builtin "BaseException.__getattribute__"))
  hk : PySem.W.findIn K (.ref D) "__getattr__" = some none
  hs : PySem.W.subIn K (.ref D) (.type "BaseException") = some true
  ha : PySem.W.findIn K (.ref D) "__class__" = some (some (.builtin "object.__class__"))
  hn : PySem.W.specialIn K (.builtin "object.__class__") "__get__" = some (some (.builtin "getset_descriptor.__get__"))
  ht : PySem.W.takesIn K (.builtin "object.__class__") = some true
  hm : PySem.W.mroIn K D (.type "object") = some true
/-- the exception stands there, with its dict -/
def XAt (X : Cx) (H : Hp) (a D : Addr) : Prop := ∃ oe d, (a, oe) ∈ X.pn ∧ L2.Zc (.ref D) d oe ∧ (∃ vs, oe.data = .fields vs) ∧ (d = none ∨ ∃ dd fs, d = some dd ∧ H dd = some (.xd fs))
theorem XAt.inst {X : Cx} {pins : List (Addr × Obj)} {σ : St} {H : Hp} {s : Shared} {a D : Addr} (I : Inv X pins σ H s) (h : XAt X H a D) : ∃ oe od, PySem.W.InstAt s.heap a oe D od := by
  obtain ⟨oe, d, hp, hz, ⟨vs, hv⟩, hd⟩ := h
  have ha := (I.pin (a, oe) (List.mem_append_left _ hp)).1
  rcases hd with rfl | ⟨dd, fs, rfl, hd⟩
  · refine ⟨oe, none, ha, hz.1, by unfold PySem.W.notCls; rw [hv] <;> rfl, by rw [hz.2]; trivial⟩
  · obtain ⟨mA, hns, hr⟩ := I.hok dd _ hd
    obtain ⟨od, ho, hl⟩ := lookIn_ns hns
    exact ⟨oe, some od, ha, hz.1, by unfold PySem.W.notCls; rw [hv] <;> rfl, by rw [hz.2]; exact ho⟩
def rIsX (X : Cx) : List V → Hp → VK → Prop := fun xs H Q => ∃ (a D : Addr) (c : V) (cv : Value) (b : Bool), xs = [.ref a, c] ∧ XAt X H a D ∧ ExK X.K D ∧ (∀ u, RelV c u → u = cv) ∧ PySem.W.kitOne X.K (.ref D) cv = some b ∧ Q (.bl b) H
theorem call_isX {X : Cx} : CallR X (.builtin "isinstance") (rIsX X) := by
  intro pins s σ H xs us Q I r h
  obtain ⟨a, D, c, cv, b, rfl, hx, C, hcv, e, q⟩ := h
  obtain ⟨u1, u2, rfl, rx, rt⟩ := vals2 r
  cases rx
  have ec := hcv _ rt
  subst ec
  obtain ⟨oe, od, J⟩ := hx.inst I
  exact PySem.W.kia_one (PySem.W.kitx_exc C.cl C.hg C.hk C.hs C.ha C.hn C.ht C.hm) I.kIn J e (fun z => nomatch z) fun tk => ⟨.bl b, H, I.kept (t' := tk) fun _ _ z => z, rfl, q⟩
def rIsXT (X : Cx) : List V → Hp → VK → Prop := fun xs H Q => ∃ (a D tp : Addr) (cs : List V) (us : List Value) (b : Bool), xs = [.ref a, .ref tp] ∧ XAt X H a D ∧ ExK X.K D ∧ H tp = some (.tup cs) ∧ Paired ClsV cs us ∧ PySem.W.kitAny X.K (.ref D) us = some b ∧ Q (.bl b) H
theorem call_isXT {X : Cx} : CallR X (.builtin "isinstance") (rIsXT X) := by
  intro pins s σ H xs us Q I r h
  obtain ⟨a, D, tp, cs, ws, b, rfl, hx, C, hT, k, e, q⟩ := h
  obtain ⟨u1, u2, rfl, rx, rt⟩ := vals2 r
  cases rx
  cases (show u2 = Value.ref tp from rt)
  obtain ⟨oe, od, J⟩ := hx.inst I
  obtain ⟨_, its, rv, o, h1, h2, n, h3⟩ := (show ObjOk X.prog X.w H s.heap tp (.tup cs) from I.hok tp _ hT)
  have e3 := ClsV.all k rv
  subst e3
  obtain ⟨oc, od', dt, sl⟩ := o
  simp only at h2 h3
  subst h2 h3
  exact PySem.W.kia_tup (PySem.W.kitx_exc C.cl C.hg C.hk C.hs C.ha C.hn C.ht C.hm) I.kIn J h1 e (fun z => nomatch z) fun tk => ⟨.bl b, H, I.kept (t' := tk) fun _ _ z => z, rfl, q⟩
def m_isx (i : Nat) (known yes : List Str) : ME := fun ρ S => match ρ[i]? with
  | some (some (.exn c _ _)) => if c ∈ known then .ok (.w (.bl (decide (c ∈ yes)))) S else .no
  | _ => .no
def fldOf : List Str → List W → Str → Option W
  | n :: ns, w :: ws, f => if n = f then some w else fldOf ns ws f
  | _, _, _ => none
theorem fldOf_at : ∀ {ns : List Str} {ws : List W} {f : Str} {w : W}, fldOf ns ws f = some w → ∃ j : Nat, ns[j]? = some f ∧ ws[j]? = some w
  | n :: ns, u :: ws, f, w, h => by
    unfold fldOf at h
    split at h
    · rename_i e
      cases h
      exact ⟨0, by simp [e], rfl⟩
    · obtain ⟨j, h1, h2⟩ := fldOf_at h
      exact ⟨j + 1, by simpa using h1, by simpa using h2⟩
  | [], _, _, _, h => by cases h
  | _ :: _, [], _, _, h => by cases h
def m_xf (i : Nat) (f : Str) (known : List Str) : ME := fun ρ S => match ρ[i]? with
  | some (some (.exn c ns ws)) => if c ∈ known then (match fldOf ns ws f with
    | some w => .ok (.w w) S
    | none => .no) else .no
  | _ => .no
/-- the slot's exception, in a context where it is handled -/
theorem xat_of {X : Cx} {H : Hp} {φ : List Addr} {c : Str} {ns : List Str} {ws : List W} {v : V} (hcm : X.calm = false) (h : SlRep (gd X) H φ (.exn c ns ws) v) :
    ∃ a C, v = .ref a ∧ X.mg c = some (.ref C) ∧ XAt X H a C ∧ ∃ oe d, (a, oe) ∈ X.pn ∧ L2.Zc (.ref C) d oe ∧ (∃ vs, oe.data = .fields vs) ∧ XRep (gd X) H φ d ns ws := by
  obtain ⟨a, oe, C, d, h1, h2, h3, h4, h5, h6⟩ := h
  have h2 : (if X.calm = true then none else X.pn.head?) = some (a, oe) := h2
  rw [hcm] at h2
  have h2 : X.pn.head? = some (a, oe) := by simpa using h2
  have hm := List.mem_of_head? h2
  refine ⟨a, C, h1, h3, ⟨oe, d, hm, h4.zc, h5, ?_⟩, oe, d, hm, h4.zc, h5, h6⟩
  rcases h6 with ⟨_, q⟩ | ⟨dd, fs, xs, q1, q2, _⟩
  · exact .inl q
  · exact .inr ⟨dd, fs, q1, q2⟩
section
variable {X : Cx} {Z : WX} {i : Nat} {n f : Str} {pos p p1 p2 pt : Pos} {known yes : List Str}
theorem se_isx1 {t : Expr} {cv : V} {cu : Value} (hcm : X.calm = false) (hg : Gl X "isinstance") (hm : X.mg "isinstance" = none) (hN : X.N[i]? = some n) (hv : Vis X.env.scope n) (ht : PE X t (tC cv)) (hcv : ∀ u, RelV cv u → u = cu)
    (hk : ∀ c ∈ known, ∀ C, X.mg c = some (.ref C) → ExK X.K C ∧ PySem.W.kitOne X.K (.ref C) cu = some (decide (c ∈ yes)))
    (hd : (n == ("__debug__" : Str)) = false := by decide) (hcd : (n == ("__classdict__" : Str)) = false := by decide)
    (he : starEach [.Name n p1, t] X.env = (false, eval (.Name n p1) X.env) :: starEach [t] X.env := by rfl) (he2 : starEach [t] X.env = (false, eval t X.env) :: starEach [] X.env := by rfl) (hpl : (backTo pos (starEach [t] X.env)).any (·.1) = false := by rfl) :
    SE X Z (.Call (.Name "isinstance" p) [.Name n p1, t] [] pos) (m_isx i known yes) :=
  (pe_callB call_isX hg hm (by decide +kernel) (pa_cons (pv i hN hv hd hcd) (pa_cons ht pa_nil he2) he) (by decide) (by decide) he hpl).imp fun σ H Q h => by
    obtain ⟨φ, S, ρ, s, e, p⟩ := h
    unfold m_isx at p
    split at p
    · rename_i c ns ws hq
      obtain ⟨v, hv1, hv2⟩ := e.at_ i _ hq
      obtain ⟨a, C, rfl, hmg, hxa, _⟩ := xat_of hcm hv2
      split at p
      · rename_i hkn
        obtain ⟨k1, k2⟩ := hk c hkn C hmg
        exact ⟨_, hv1, a, C, cv, cu, _, rfl, hxa, k1, hcv, k2, fin_bl p s⟩
      · exact p.elim
    · exact p.elim
theorem se_isxN {es : List Expr} {kk : Nat} {cs : List V} {us : List Value} (hcm : X.calm = false) (hg : Gl X "isinstance") (hm : X.mg "isinstance" = none) (hN : X.N[i]? = some n) (hv : Vis X.env.scope n) (ht : PA X es (fun _ H Q => Q cs H)) (hcs : Paired ClsV cs us) (hz : cs.length ≤ 1000)
    (hk : ∀ c ∈ known, ∀ C, X.mg c = some (.ref C) → ExK X.K C ∧ PySem.W.kitAny X.K (.ref C) us = some (decide (c ∈ yes)))
    (hd : (n == ("__debug__" : Str)) = false := by decide) (hcd : (n == ("__classdict__" : Str)) = false := by decide)
    (he : starEach [.Name n p1, .Tuple es kk pt] X.env = (false, eval (.Name n p1) X.env) :: starEach [.Tuple es kk pt] X.env := by rfl) (he2 : starEach [.Tuple es kk pt] X.env = (false, eval (.Tuple es kk pt) X.env) :: starEach [] X.env := by rfl) (hpl : (backTo pos (starEach [.Tuple es kk pt] X.env)).any (·.1) = false := by rfl) :
    SE X Z (.Call (.Name "isinstance" p) [.Name n p1, .Tuple es kk pt] [] pos) (m_isx i known yes) :=
  (pe_callB call_isXT hg hm (by decide +kernel) (pa_cons (pv i hN hv hd hcd) (pa_cons (pe_tup ht) pa_nil he2) he) (by decide) (by decide) he hpl).imp fun σ H Q h => by
    obtain ⟨φ, S, ρ, s, e, p⟩ := h
    unfold m_isx at p
    split at p
    · rename_i c ns ws hq
      obtain ⟨v, hv1, hv2⟩ := e.at_ i _ hq
      split at p
      · rename_i hkn
        refine ⟨_, hv1, by rw [sizeLine_eq]; omega, fun q hq => ?_⟩
        have e2 := s.newE (.tup cs) hq
        have s2 := s.newS (.tup cs) hq
        obtain ⟨a, C, rfl, hmg, hxa, _⟩ := xat_of hcm (hv2.mono s e2)
        obtain ⟨k1, k2⟩ := hk c hkn C hmg
        exact ⟨a, C, q, cs, us, _, rfl, hxa, k1, upd_same, hcs, k2, p.at_ e2 s2 ⟨by simp only [TRep, Rep], trivial⟩⟩
      · exact p.elim
    · exact p.elim
/-- e.f -/
theorem se_xf (hcm : X.calm = false) (hN : X.N[i]? = some n) (hv : Vis X.env.scope n) (hx : ∀ c ∈ known, ∀ C, X.mg c = some (.ref C) → XfC X.K C ∧ PySem.W.findIn X.K (.ref C) f = some none)
    (hd : (n == ("__debug__" : Str)) = false := by decide) (hcd : (n == ("__classdict__" : Str)) = false := by decide)
    (hb : attributeBase (.Name n p1) f X.env (eval (.Name n p1) X.env) = eval (.Name n p1) X.env := by rfl) : SE X Z (.Attribute (.Name n p1) f pos) (m_xf i f known) := by
  refine ⟨fun pins s σ H Q I h => ?_⟩
  refine attr_of hb (thn ((pv (X := X) i (pos := p1) hN hv hd hcd).run pins s σ H (fun v H' => lE X Z (m_xf i f known) σ H' Q ∧ σ[i]? = some (some v)) I ?_) fun u s1 hh => ?_)
  · obtain ⟨φ, S, ρ, s, e, p⟩ := id h
    unfold m_xf at p
    split at p
    · rename_i c ns ws hq
      obtain ⟨v, hv1, hv2⟩ := e.at_ i _ hq
      exact ⟨v, hv1, h, hv1⟩
    · exact p.elim
  · obtain ⟨v, H1, I1, rv, ⟨φ, S, ρ, s, e, p⟩, hσ⟩ := hh
    unfold m_xf at p
    split at p
    · rename_i c ns ws hq
      obtain ⟨v', hv1, hv2⟩ := e.at_ i _ hq
      rw [hσ] at hv1; cases hv1
      obtain ⟨a, C, rfl, hmg, hxa, oe, d, hp, hz, hf, hxr⟩ := xat_of hcm hv2
      obtain rfl : u = Value.ref a := rv
      split at p
      · rename_i hkn
        split at p
        · rename_i w hw0
          obtain ⟨j, hns, hw⟩ := fldOf_at hw0
          obtain ⟨T, hno⟩ := hx c hkn C hmg
          rcases hxr with ⟨z, _⟩ | ⟨dd, fs, xs, rfl, q2, q3, q4⟩
          · subst z; simp at hns
          · obtain ⟨x, hx1, hx2⟩ := q3.get hw
            have l := q4 j f x hns hx1
            obtain ⟨ha, _⟩ := I1.pin (a, oe) (List.mem_append_left _ hp)
            obtain ⟨vs, hdat⟩ := hf
            obtain ⟨mA, hnsq, hr⟩ := I1.hok dd _ q2
            obtain ⟨od, ho, hl⟩ := lookIn_ns hnsq
            obtain ⟨u, hu, ru⟩ := RelO.some_of (v := x) (o := mA f) (by rw [← l]; exact hr f)
            have J : PySem.W.InstAt s1.heap a oe C (some od) := ⟨ha, hz.1, by unfold PySem.W.notCls; rw [hdat] <;> rfl, by rw [hz.2]; exact ho⟩
            exact HandSPX.exc_get I1.kIn J T.ga T.gg T.exC (PySem.W.findObj_own T.hdC hno rfl (by rw [hl, hu])) (handed_of ru) ⟨x, H1, I1.tok _, ru, fin p s hx2⟩
        · exact p.elim
      · exact p.elim
    · exact p.elim
end
end Ev

set_option Elab.async false
set_option linter.all false
set_option maxRecDepth 100000
set_option maxHeartbeats 2000000
/-! Ev10: calls and for within an except suite. -/
namespace Ev
open PySem PySem.Spec PyProof.Rows L2 HotX L2H

section
variable {prog : Program} {w : World} {A : Around} {E : Value → Shared → Prop} {s : Shared}
theorem list_end_hot {it l x1 : Addr} {i : Nat} {items} {Q : Option Value → Shared → Prop} (hot : HotAt A x1 s.heap) (hx1 : x1 ≠ it)
    (hit : s.heap.IsListIter it l i) (hl : s.heap.IsList l items) (hx : items[i]? = none)
    (hQ : ∀ h', (∀ b o, b ≠ it → s.heap.get? b = some o → h'.get? b = some o) → Q none { s with heap := h' }) : wpAny (model prog w) A (pyNext (.ref it)) Q E s := by
  obtain ⟨o, ho, hc, hd⟩ := id hit
  obtain ⟨ol, hol, _, nl, hdl⟩ := hl
  obtain ⟨hh, o1, vs1, h1, d1, c1⟩ := hot
  unfold pyNext
  refine wpAny_bind (wpAny_attempt (wpAny_callSpecial?_slot (name := Str.ofString "__next__") hit.typeIs slot_listiter_next
    (wpAny_call_entry slot_listiter_next hit.typeIs entry_listiter_next ?_ (args_listiter_next _))))
  show wpAny _ _ (field (.ref it) 0 >>= _) _ _ s
  refine wpAny_bind (wpAny_field ho hd (x := .ref l) rfl ?_)
  show wpAny _ _ (if (Value.ref l == Value.none) = true then _ else _) _ _ s
  rw [if_neg (show ¬ ((Value.ref l == Value.none) = true) from Bool.false_ne_true)]
  show wpAny _ _ (field (.ref it) 1 >>= _) _ _ s
  refine wpAny_bind (wpAny_field ho hd (x := .int i 0) rfl ?_)
  show wpAny _ _ (seqItems? (.ref l) >>= _) _ _ s
  refine wpAny_bind (wpAny_seqItems hol hdl ?_)
  simp only [Int.toNat_natCast, hx]
  refine wpAny_bind (wpAny_rule (wpAny_bind (wpAny_setField ho hd (by simp) ?_)))
  show wpAny _ _ (newExc (.type "StopIteration") [] >>= _) _ _ _
  refine wpAny_bind ?_
  simp only [newExc, newTuple]
  refine wpAny_bind (wpAny_newObj_type ?_ (by size_fits))
  refine wpAny_bind (m := firstArgMember _ _) (wpAny_of_eq (a := Value.none) (by first | rfl | (simp only [firstArgMember]; rfl)) ?_)
  refine wpAny_newObj_type ?_ (by size_fits)
  have hgen : ∀ (f : Array Value → Array Value), (s.heap.update it (Obj.mapFields f)).get? x1 = some o1 := fun f => by
    rw [Heap.get?_update_other _ _ (Ne.symm hx1)]; exact h1
  refine raiseNew_hot ⟨hh, o1, vs1, Heap.get?_push_of_some _ (Heap.get?_push_of_some _ (hgen _)), d1, c1⟩ (Nat.ne_of_lt (Heap.lt_size (Heap.get?_push_of_some _ (hgen _)))) (Heap.get?_push_size _ rfl) rfl (by first | (simp; done) | (simp; omega) | (simp only [Array.size_append]; simp; omega)) ?_
  refine wpAny_bind (wpAny_isInstance (T := "StopIteration") (b := true) ⟨_, Heap.get?_update_self _ (Heap.get?_push_size _ rfl) rfl, rfl⟩ isSubtype_stop ?_)
  refine wpAny_pure (hQ _ fun b o hb e => ?_)
  have e1 : (s.heap.update it (Obj.mapFields fun x => x.setIfInBounds 0 Value.none)).get? b = some o := by
    rw [Heap.get?_update_other _ _ (Ne.symm hb)]; exact e
  rw [Heap.get?_update_other _ _ (Nat.ne_of_gt (Heap.lt_size (Heap.get?_push_of_some _ e1)))]
  exact Heap.get?_push_of_some _ (Heap.get?_push_of_some _ e1)
end
theorem turn_listH {P : Program} {w : World} {K : PySem.W.Frag} {tg : Expr} (a it : Addr) : TurnH P w K tg (Itl K a) [it] it (fun i h => h.IsListIter it a i) where
  mem := by simp
  obj := fun i h st b hb => by
    have e : b = it := by simpa using hb
    subst e
    obtain ⟨o, e, c, d⟩ := st
    exact ⟨o, e, fun v z => by rw [d] at z; cases z⟩
  keep := fun i h h' st k => st.at fun o e => k it (by simp) o e
  item := by
    intro X hP hw hK hc i pins s σ H E I hf st hg
    subst hP hw hK
    obtain ⟨xs, x, hq, hx⟩ := hg
    obtain ⟨its, rv, p, hz⟩ := I.list hq
    obtain ⟨u, hu, ru⟩ := rv.get hx
    obtain ⟨f0, f1, f2, f3, f4, f5⟩ := hf it (by simp)
    refine wpAny_pyNext_list_item st p.isList (x := u) (by simpa using hu) fun h' st' sb => ?_
    have I1 : Inv X pins σ H { s with heap := h' } := I.turned (t' := s.toks) (fun b o hb e => (sb.2 b hb).trans e) f0 f1 f3 f4 f5
    obtain ⟨o, e, c, d⟩ := id st'
    exact ⟨u, rfl, go_of (s := { s with heap := h' }) e c d (by decide) ⟨x, H, I1, ru, ⟨rfl, fun ys hy => by rw [I.list_inj hy hq]; exact hx⟩, st', fun b hb => (hf b hb).1⟩⟩
  done := by
    intro X hP hw hK hc i pins s σ H E I hf st hg
    subst hP hw hK
    obtain ⟨xs, hq, hx⟩ := hg
    obtain ⟨its, rv, p, hz⟩ := I.list hq
    obtain ⟨f0, f1, f2, f3, f4, f5⟩ := hf it (by simp)
    have hl := rv.length
    obtain ⟨q, ⟨hh, v1, e1, c1⟩, hp⟩ := hc
    have P1 := (I.pin q (List.mem_append_left _ hp)).1
    obtain ⟨oi, ei, ci, di⟩ := id st
    have hne : q.1 ≠ it := fun z => f5 q (List.mem_append_left _ hp) z
    exact list_end_hot ⟨hh, q.2, v1, P1, e1, c1⟩ hne st p.isList (by simp; omega) fun h' eb => ⟨rfl, I.turned (t' := s.toks) (fun b o hb e => eb b o hb e) f0 f1 f3 f4 f5⟩
  self := fun _ _ _ _ _ st h => wpAny_pyIter_listiter st h

/-! ### for over lists there -/
abbrev SIH (X : Cx) (Z : WX) (tg : Expr) (iter : Expr) (m : MI) : Prop := PIH X tg iter (lI (gd X) Z m)
def iLst (K : PySem.W.Frag) (t : TE) : TI := fun σ H R => t σ H fun x H1 => ∃ a xs, x = .ref a ∧ SqL K H1 a xs ∧ R (Itl K a) H1
def i_lst (m : ME) : MI := fun ρ S => (m ρ S).bind fun t S1 => match t with
  | .w (.tup _) => .no
  | .w (.str _) => .no
  | t => match itemsOf t S1 with
    | some it => .ok it S1
    | none => .no
section
variable {X : Cx} {Z : WX} {tg a : Expr} {ma : ME}
theorem pi_lstH {t : TE} (ha : PE X a t) : PIH X tg a (iLst X.K t) := by
  refine ⟨fun pins s σ H R I h => ?_⟩
  refine thn (ha.run pins s σ H _ I h) fun v s1 ⟨x, H1, I1, r1, q1⟩ => ?_
  obtain ⟨l, xs, e, hq, q⟩ := q1
  subst e
  cases r1
  obtain ⟨its, rv, p, hz⟩ := I1.list hq
  refine wpAny_pyIter_list p.isList ?_
  refine ⟨s1.heap.objs.size, [s1.heap.objs.size], _, _, H1, rfl, I1.kept (t' := s1.toks) fun b o e => Heap.get?_push_of_some _ e, turn_listH l _, ⟨_, Heap.get?_push_size _ rfl, rfl, rfl⟩, fun b hb => ?_, q⟩
  have e : b = s1.heap.objs.size := by simpa using hb
  subst e
  exact I1.fpOk (Nat.le_refl _) (I1.hok.fresh (Nat.le_refl _))
theorem _root_.L2H.PIH.imp {X : Cx} {tg e : Expr} {t t' : TI} (h : PIH X tg e t) (i : ∀ σ H R, t' σ H R → t σ H R) : PIH X tg e t' := ⟨fun pins s σ H R I q => h.run pins s σ H R I (i _ _ _ q)⟩
theorem si_lstH (ha : SE X Z a ma) : SIH X Z tg a (i_lst ma) := (pi_lstH ha).imp fun σ H Rr h => by
  obtain ⟨φ, S, ρ, s, e, p⟩ := h
  refine ⟨φ, S, ρ, s, e, (PostG.bind (rep := repE (gd X)) p).mono fun x H1 ⟨t, S1, φ1, e1, s1, r1, p1⟩ => ?_⟩
  split at p1
  · exact p1.elim
  · exact p1.elim
  · rename_i n1 n2
    split at p1
    · rename_i it hit
      have r := r1.1
      rcases t with y | ws
      · cases y with
        | tup ws => exact (n1 ws rfl).elim
        | str z => exact (n2 z rfl).elim
        | rol ws =>
          cases hit
          simp only [TRep, Rep] at r
          obtain ⟨a, xs, rfl, q1, q2⟩ := r
          exact ⟨a, xs, rfl, q1.sq, p1.now s1 (ok_rol s1 (fun H' φ' e => (roL_mono s1 e q1).sq) q2)⟩
        | loc n =>
          simp only [itemsOf] at hit
          split at hit
          · rename_i ws hn
            cases hit
            obtain ⟨a, xs, q1, q2, q3⟩ := s1.lst hn
            exact ⟨a, xs, loc_rep (g := gd X) (H := H1) r q1, SqL.of q2, p1.now s1 (ok_loc q1)⟩
          · cases hit
        | _ => cases hit
      · cases hit
        obtain ⟨a, xs, rfl, q1, q2, q3⟩ := r
        exact ⟨a, xs, rfl, SqL.of q2, p1.now s1 (ok_rol s1 (fun H' φ' e => SqL.of (e.keep _ _ q2 q1)) q3)⟩
    · exact p1.elim
end
section
variable {X : Cx} {Z : WX} {tg iter : Expr} {body : List Stmt} {mi : MI} {mg : MG} {mb : MS} {ts : List Nat} {pos : Pos}
theorem ss_forH (clr : List Nat) (hp : PassesOwn (model X.prog X.w) X.A X.env X.xe) (hc : HotC X) (hi : SIH X Z tg iter mi) (hg : SG X Z ts tg mg) (hb : SSs X Z body mb) (hs : ∀ x, foldedSetIterable iter X.env x = pure x := by intro _; rfl) :
    SS X Z (.For tg iter body [] pos) (s_for mi mg clr mb) := (ps_forH hp hc hi hg hb hs).imp fun D σ H h => by
  obtain ⟨φ, S, ρ, s, e, p⟩ := h
  refine ⟨φ, S, ρ, s, e, (PostS.thenS (rep := repI (gd X)) p s e).mono fun J H1 ⟨it, S1, φ1, e1, s1, ok, p1⟩ => ?_⟩
  refine ⟨fun i m σ H2 => ∃ φ2 S2 ρ2, m = it.ws.length - i ∧ i ≤ it.ws.length ∧ Ext H1 φ1 H2 φ2 ∧ SRep (gd X) H2 φ2 S2 ∧ ERep (gd X) H2 φ2 ρ2 σ ∧ PostS (gd X) Z H2 φ2 (forL mg clr mb it.chk (it.ws.drop i) ρ2 S2) D,
    ⟨it.ws.length, φ1, S1, ρ, rfl, Nat.zero_le _, .refl _ _, s1, e.mono s e1, p1⟩, ?_⟩
  rintro i m σ2 H2 ⟨φ2, S2, ρ2, rfl, hi2, e2, s2, r2, p2⟩
  by_cases hlt : i < it.ws.length
  · right
    have hd : it.ws.drop i = it.ws[i] :: it.ws.drop (i + 1) := List.drop_eq_getElem_cons hlt
    rw [hd] at p2
    unfold forL at p2
    split at p2
    · rename_i hchk
      obtain ⟨g1, g2⟩ := ok.go H2 φ2 S2 i it.ws[i] e2 s2 hchk (List.getElem?_eq_getElem hlt)
      refine ⟨g1, fun σ' H' => ∃ φ' S' ρ', Ext H1 φ1 H' φ' ∧ SRep (gd X) H' φ' S' ∧ ERep (gd X) H' φ' ρ' σ' ∧ PostS (gd X) Z H' φ' (forL mg clr mb it.chk (it.ws.drop (i + 1)) ρ' S') D, ?_, fun x H3 y => ?_⟩
      · rintro σ' H' ⟨φ', S', ρ', q1, q2, q3, q4⟩
        exact ⟨it.ws.length - (i + 1), by omega, φ', S', ρ', rfl, hlt, q1, q2, q3, q4⟩
      · obtain ⟨e3, s3, r3⟩ := g2 x H3 y
        refine ⟨φ2, S2, wipeR clr ρ2, it.ws[i], s3, (r2.mono s2 e3).wipe, r3, ?_⟩
        have p3 := PostS.later p2 e3
        refine PostG.calm (Z := Z) (σ := σ2) ((PostS.thenS (rep := repN (gd X) ts σ2) p3 s3 (r2.mono s2 e3)).mono fun σ4 H4 ⟨ρ4, S4, φ4, e4, s4, r4, p4⟩ => ?_)
        refine ⟨φ4, S4, ρ4, s4, r4.1, PostS.again p4 fun σ5 H5 φ5 ρ5 S5 e5 s5 r5 p5 => ?_⟩
        exact ⟨φ5, S5, ρ5, ((e2.trans e3).trans e4).trans e5, s5, r5, p5⟩
    · exact p2.elim
  · left
    have hie : i = it.ws.length := by omega
    subst hie
    rw [List.drop_length] at p2
    unfold forL at p2
    split at p2
    · rename_i hchk
      exact ⟨ok.stop H2 φ2 S2 e2 s2 hchk, p2 σ2 H2 φ2 (.refl _ _) s2 r2.wipe⟩
    · exact p2.elim
end
/-! ### defs called there -/
structure FnHp (P : Program) (w : World) (K : PySem.W.Frag) (mg : Str → Option Value) (base : Heap) (CX : CXT) (k : Nat) (f : Addr) (fd : FuncData) (ps : List Str) (sp : Addr × Obj → Sp) : Prop where
  len : ∀ p vs H Q E, sp p vs H Q E → vs.length = ps.length
  run : ∀ (A : Around) (outer : List PySem.Env) (s : Shared) (H : Hp) (args : Args) (us : List Value) (vs : List V) (Q : VK) (E : XK) (p : Addr × Obj), RoomH k A → Hot1 A p → PinOk outer H s p → Env0 P w K mg base A outer s H → BindsTo s fd args (ps.zip us) → Vals vs us → sp p vs H Q E →
    codeAny (model P w) A (.call (.ref f) args) (CR CX outer P w H s Q E) s
theorem fn_ofHp {CX : CXT} {P : Program} {w : World} {K : PySem.W.Frag} {mg : Str → Option Value} {base : Heap} {k : Nat} {f : Addr} {name qual : Str} {params : Arguments} {body : List Stmt} {scope : Scope} {dV kV doc pm cdv ct oc : Value} {an od : Option Addr}
    {osl : Array (Option Value)} {N ps : List Str} {sp : Addr × Obj → Sp} (lk : K.lookup f = some ⟨oc, od, .func (PySem.W.fnOf name qual params body scope dV kV doc pm an cdv ct), osl⟩) (hcd : PySem.W.codeIn K cdv qual = true) (S : FnScope N ps scope)
    (len : ∀ p vs H Q E, sp p vs H Q E → vs.length = ps.length)
    (hbody : ∀ (A : Around) (outer : List PySem.Env) (s : Shared) (H : Hp) (vs : List V) (Q : VK) (E : XK) (p : Addr × Obj), Hot1 A p → RoomH k (A.deeper (envOfC qual scope s.heap.objs.size f cdv)) → sp p vs H Q E →
      ∃ t, PSs (cxH CX P w K mg base N qual scope f cdv A outer s H E p) body t ∧ t { nx := fun _ H' => Q .non H', rt := Q } (L2.start N vs) H) :
    FnHp P w K mg base CX (k + 1) f (PySem.W.fnOf name qual params body scope dV kV doc pm an cdv ct) ps sp := by
  refine ⟨len, fun A outer s H args us vs Q E p hr hot hpin e0 hb r hsp => ?_⟩
  have hl := len _ _ _ _ _ hsp
  have KX : K.In s.heap := e0.mod.kin.keeps fun b o e => (e0.bs b o e).1
  have lim : s.heap.NoLimit := e0.mod.nolimit.keeps fun b o e => (e0.bs b o e).1
  have hkind : ∀ y ∈ ps.zip us, scope.names.lookup y.1 = some .local ∨ (scope.names.lookup y.1 = some .cell ∧ ((cellsFrom (s.heap.objs.size + 1) scope.names []).lookup y.1).isSome = true) := fun ⟨n, v⟩ hy => by
    rcases S.par n (List.of_mem_zip hy).1 with q | q
    · exact .inl q
    · exact .inr ⟨q, PySem.W.cellsFrom_some _ _ _ (.inl q)⟩
  refine codeAny_call_function hr.depth (KX _ _ lk) rfl S.co S.gen rfl (PySem.W.codeRec_of KX hcd) (hb _ _ _ _ ?_)
  refine wpAny_newFunctionEnv_cells S.kind hkind fun env he s1 x => ?_
  subst he
  refine ⟨lim.keeps x.toInCall.keep, codeAny_func ?_⟩
  obtain ⟨t, ht, hq⟩ := hbody A outer s H vs Q E p hot (hr.deeper _) hsp
  have I : Inv (cxH CX P w K mg base N qual scope f cdv A outer s H E p) [] (L2.start N vs) H s1 := inv_startH S hpin e0 hl r x
  refine wpAny_mono (ht.run [] s1 (L2.start N vs) H _ I hq) (fun fl s' hs => ?_) fun e s' hs => hs
  have fin : ∀ {σ' : St} {H' : Hp} {v : V} {u : Value}, Inv (cxH CX P w K mg base N qual scope f cdv A outer s H E p) [] σ' H' s' → RelV v u → Q v H' → CE outer P w H s Q u s' :=
    fun {σ' H' v u} J rv q => ⟨v, H', J.os, J.bare, J.base, J.hok, rv, q⟩
  cases fl with
  | ret u =>
    obtain ⟨v, σ', H', J, rv, q⟩ := hs
    exact fin J rv q
  | next =>
    obtain ⟨σ', H', J, q⟩ := hs
    exact fin (v := V.non) (u := Value.none) J rfl q
  | brk =>
    obtain ⟨_, _, _, q⟩ := hs
    exact False.elim q
  | cont =>
    obtain ⟨_, _, _, q⟩ := hs
    exact False.elim q
/-- the handled exception of this context -/
structure CtxH (X : Cx) (Z : WX) (k : Nat) (p : Addr × Obj) : Prop where
  room : RoomH k X.A
  cold : X.calm = false
  hot : Hot1 X.A p
  head : X.pn.head? = some p
  tk : L2N.Takes X Z
  po : PassesOwn (model X.prog X.w) X.A X.env X.xe
theorem CtxH.hotC {X : Cx} {Z : WX} {k : Nat} {p : Addr × Obj} (c : CtxH X Z k p) : HotC X := ⟨p, c.hot, List.mem_of_head? c.head⟩
theorem CtxH.gd {X : Cx} {Z : WX} {k : Nat} {p : Addr × Obj} (c : CtxH X Z k p) : gd X = ⟨X.K, X.mg, some p⟩ := by
  show Gd.mk X.K X.mg (if X.calm = true then none else X.pn.head?) = _
  rw [c.cold, c.head]
  rfl
theorem CtxH.mono {X : Cx} {Z : WX} {k j : Nat} {p : Addr × Obj} (c : CtxH X Z k p) (h : j ≤ k) : CtxH X Z j p := ⟨c.room.mono h, c.cold, c.hot, c.head, c.tk, c.po⟩
section
variable {P : Program} {w : World} {K : PySem.W.Frag} {mg : Str → Option Value} {base : Heap}
def DoesH (P : Program) (w : World) (K : PySem.W.Frag) (mg : Str → Option Value) (base : Heap) (k : Nat) (f : Addr) (fd : FuncData) (ps : List Str) (mf : List W → Store → R T) : Prop := FnHp P w K mg base (L2N.CX P w) k f fd ps (fun p => spOf ⟨K, mg, some p⟩ ps.length mf)
theorem does_ofH {x qual : Str} {st : Stmt} {f : Addr} {fd : FuncData} {N ps : List Str} {k : Nat} {ms : MS} (F : Fun K x qual st f fd) (S : FnScope N ps (defScope st))
    (hbody : ∀ (X : Cx) (Z : WX) (p : Addr × Obj), X.prog = P → X.w = w → X.K = K → X.mg = mg → X.base = base → X.N = N → X.env.scope = defScope st → (∃ sz cdv, X.env = envOfC qual (defScope st) sz f cdv) → CtxH X Z k p → SSs X Z (defBody st) ms) : DoesH P w K mg base (k + 1) f fd ps (mdef N.length ms) := by
  obtain ⟨oc, od, kV, doc, pm, an, cdv, ct, osl, rfl, lk, hcd⟩ := F.ex
  have hpl : ps.length ≤ N.length := by have := congrArg List.length S.pre; rw [List.length_take] at this; omega
  refine fn_ofHp lk hcd S (fun p vs H Q E h => h.1) fun A outer s H vs Q E p hot hr hsp => ?_
  refine ⟨_, hbody (cxH (L2N.CX P w) P w K mg base N qual (defScope st) f cdv A outer s H E p) (fun C d _ H' => E C d H') p rfl rfl rfl rfl rfl rfl rfl ⟨_, _, rfl⟩ ⟨hr, rfl, hot, rfl, L2N.takes_of rfl rfl rfl rfl, L2.passes_of rfl⟩, body_run hpl hsp⟩
end
section
variable {X : Cx} {Z : WX} {k j : Nat} {f : Addr} {fd : FuncData} {ps : List Str} {x : Str} {p0 : Addr × Obj} {p pos : Pos} {e : Expr} {es : List Expr} {m : MA} {mf : List W → Store → R T}
theorem se_callH (F : DoesH X.prog X.w X.K X.mg X.base k f fd ps mf) (c : CtxH X Z k p0) (hg : Gl X x) (hm : X.mg x = some (.ref f)) (hk : PySem.W.keepIn X.K (.ref f) = true) (hb : Binds X.K fd ps [])
    (ha : SA X Z (e :: es) m) (hdb : (x == ("__debug__" : Str)) = false := by decide) (he : starEach (e :: es) X.env = (false, eval e X.env) :: starEach es X.env := by rfl) (hpl : (backTo pos (starEach es X.env)).any (·.1) = false := by rfl) :
    SE X Z (.Call (.Name x p) (e :: es) [] pos) (m_call ps.length mf m) := by
  have eg := c.gd
  refine ⟨fun pins s σ H Q I h => ?_⟩
  refine wpAny_Call_Name_kw (ld_glob I hg hm ?_ hdb)
  obtain ⟨φ, S, ρ, s0, e0, p0'⟩ := h
  refine PySem.W.callWith_K (h₀ := X.base) I.ok.mod.kin hk (thn (ha.run pos pins s σ H (fun vs H1 => spOf ⟨X.K, X.mg, some p0⟩ ps.length mf vs H1 Q (WE Z σ)) I ⟨φ, S, ρ, s0, e0, (PostG.bind (rep := repA (Ev.gd X)) p0').mono fun vs H1 ⟨ws, S1, φ1, e1, s1, r1, p1⟩ => ?_⟩) fun us s1 ⟨vs, H1, I1, r, q⟩ => ⟨I1.kIn, ?_⟩) he hpl
  · split at p1
    · rename_i hl
      refine ⟨by rw [← r1.length]; exact hl, φ1, S1, ws, by rw [← eg]; exact s1, by rw [← eg]; exact r1.sl, ?_⟩
      rw [← eg]
      generalize mf ws S1 = r at p1 ⊢
      cases r with
      | ok t S2 => exact p1
      | exc c ns xs S2 => exact p1
      | no => exact p1
    · exact p1.elim
  · have hp := List.mem_of_head? c.head
    have hl : us.length = ps.length := by rw [← r.length]; exact F.len _ _ _ _ _ q
    have b := hb s1 us I1.kIn (by rw [List.append_nil]; exact hl)
    rw [List.append_nil] at b
    have P1 := I1.pin p0 (List.mem_append_left _ hp)
    have hpin : PinOk X.stack H1 s1 p0 := ⟨P1.1, P1.2.1, fun hm => (List.mem_cons.mp (I1.stkSub p0.1 hm)).elim P1.2.2.1 P1.2.2.2.1, P1.2.2.2.2⟩
    refine wpAny_call (codeAny_mono (F.run X.A X.stack s1 H1 ⟨us, []⟩ us vs Q (WE Z σ) p0 c.room c.hot hpin I1.env0 b r q) fun r s' hq => ?_)
    cases r with
    | error e => exact L2N.passAt c.tk σ pins H1 s1 e s' I1 hq
    | ok fl =>
      cases fl with
      | ret u => exact I1.after hq
      | next => exact False.elim hq
      | brk => exact False.elim hq
      | cont => exact False.elim hq
end
end Ev

set_option Elab.async false
set_option linter.all false
set_option maxRecDepth 100000
set_option maxHeartbeats 2000000
/-! Ev11: raise C() of an own class without fields. -/
namespace Ev
open PySem PySem.Spec PyProof.Rows L2
section
variable {X : Cx} {Z : WX}
theorem mk_end00 {pins : List (Addr × Obj)} {σ : St} {H1 H2 : Hp} {hp hp2 h2 : Heap} {g1 g2 : Array GenState} {d1 d2 : Drawn} {t1 t2 : Nat} {os1 os2 : OsState} {a C : Addr} (I1 : Inv X pins σ H1 ⟨hp, g1, d1, t1, os1⟩)
    (ha : hp.objs.size ≤ a) (k : ∀ b o, hp.get? b = some o → hp2.get? b = some o) (un : Un (frs X.stack) [] (upd H1 a (exo a C none)) H2 hp2 h2) (hok : HOk X.prog X.w H2 h2) (ho : os2 = os1) (hb : AllBare g2)
    (ea : H2 a = some (exo a C none)) :
    ∃ (t0 : Addr) (G : Heap), Inv X pins σ (del H2 a) ⟨G, g2, d2, t2, os2⟩ ∧ (∀ b o, G.get? b = some o → h2.get? b = some o) ∧ G.get? a = none ∧
      h2.get? a = some ({ cls := .ref C, dict := none, data := .fields #[.ref t0, .none, .none, .none, .bool false, .none] } : Obj) ∧ (del H2 a) a = none := by
  obtain ⟨t0, hoe⟩ := exo_at hok ea
  have hn : H1 a = none := I1.hok.fresh ha
  obtain ⟨G, g1', g2'⟩ := restrict h2 fun b => decide (b ≠ a)
  have gk : ∀ b, b ≠ a → G.get? b = h2.get? b := fun b hb => g1' b (decide_eq_true hb)
  have ge : G.get? a = none := g2' a (by simp)
  have nha : ∀ {b : Addr} {o : Obj}, hp.get? b = some o → b ≠ a := fun {b o} z => Nat.ne_of_lt (Nat.lt_of_lt_of_le (Heap.lt_size z) ha)
  have up : ∀ {b : Addr}, b ≠ a → H1 b = none → upd H1 a (exo a C none) b = none := fun {b} hb n => by rw [upd_ne hb]; exact n
  have U : Un (frs X.stack) [] H1 (del H2 a) hp G := {
    keep := fun b o z n hf hx => by
      rw [gk b (nha z)]
      exact un.keep b o (k b o z) (up (nha z) n) hf hx
    slot := fun b o z n hf hx => by
      rw [gk b (nha z)]
      exact un.slot b o (k b o z) (up (nha z) n) hf hx
    free := fun b o z n hx => by
      rw [del_ne (nha z)]
      exact un.free b o (k b o z) (up (nha z) n) hx
    there := fun b o z hx => by
      rw [gk b (nha z)]
      exact un.there b o (k b o z) hx
    tups := fun b xs z => by
      rw [del_ne (ne_of_none z hn)]
      exact un.tups b xs (by rw [upd_ne (ne_of_none z hn)]; exact z)
    frzs := fun b o v z => by
      rw [del_ne (ne_of_none z hn)]
      exact un.frzs b o v (by rw [upd_ne (ne_of_none z hn)]; exact z)
    tbls := fun b ps z => by
      rw [del_ne (ne_of_none z hn)]
      exact un.tbls b ps (by rw [upd_ne (ne_of_none z hn)]; exact z) }
  have hok3 : HOk X.prog X.w (del H2 a) G := fun b o z => by
    have hba : b ≠ a := fun e => by
      rw [e, del_same] at z
      cases z
    rw [del_ne hba] at z
    have noa : ∀ {c : Addr}, H2 c = some (.own b) → c ≠ a := fun {c} hc => at_ne ea hc exo_own
    exact (hok b o z).stay (fun c v hc y => by
        have hca : c ≠ a := by
          rcases hc with hc | hc
          · rw [hc]
            exact hba
          · exact noa hc
        rw [gk c hca]
        exact y)
      (fun c hc => by rw [del_ne (noa hc)]; exact hc) (fun c xs hc => by rw [del_ne (at_ne ea hc exo_tup)]; exact hc)
  have J : Inv X pins σ (del H2 a) ⟨G, g2, d2, t2, os2⟩ := I1.call' (ch := []) ho U hok3 hb (fun b z => absurd z (by simp))
  refine ⟨t0, G, J, fun b o z => ?_, ge, hoe, del_same⟩
  by_cases hba : b = a
  · rw [hba, ge] at z
    cases z
  · exact (gk b hba).symm.trans z
variable {x : Str} {p pos pos2 : Pos} {C : Addr}
theorem pmk0 {k : Nat} (E1 : ErrC X.prog X.w X.K X.mg X.base x [] C) (hr : Room (k + 2) X.A) (hg : Gl X x) (hdb : (x == ("__debug__" : Str)) = false := by decide) :
    L2N.PMk X (.Call (.Name x p) [] [] pos) (fun σ H Q => Q (.ref C) none H) := by
  intro pins s σ H Q I h
  obtain ⟨T, ⟨fI, fd, ps, iC, tI', F1, hb, hfs⟩⟩ := And.intro E1.ox E1.ini
  obtain ⟨nm, q, N, bs, bm, sn, sub, ab, col, dd, k0, k1, k2, k3, k5, hC, hbm⟩ := T.cls
  refine wpAny_Call_Name_kw (ld_glob I hg E1.g ?_ hdb)
  refine PySem.W.callWith_K0 I.kIn T.kC ?_
  show wpAny _ _ (call (.ref C) []) _ _ _
  obtain ⟨hp, g, dr, tk, os⟩ := s
  have hsz : hp.objs.size ≤ hp.objs.size + 1 := Nat.le_succ _
  have hn : H (hp.objs.size + 1) = none := I.hok.fresh hsz
  have kk : ∀ b o, hp.get? b = some o → ((hp.push (PySem.W.kdv_tup [])).push (PySem.HandSPX.excO C hp.objs.size)).get? b = some o := fun b o e => Heap.get?_push_of_some _ (Heap.get?_push_of_some _ e)
  have hget : ((hp.push (PySem.W.kdv_tup [])).push (PySem.HandSPX.excO C hp.objs.size)).get? (hp.objs.size + 1) = some (PySem.HandSPX.excO C hp.objs.size) := by heap_get
  have I2 : Inv X pins σ (upd H (hp.objs.size + 1) (exo (hp.objs.size + 1) C none)) ⟨(hp.push (PySem.W.kdv_tup [])).push (PySem.HandSPX.excO C hp.objs.size), g, dr, tk, os⟩ :=
    I.laid (t' := tk) (a := hp.objs.size + 1) (o := exo (hp.objs.size + 1) C none) (h' := (hp.push (PySem.W.kdv_tup [])).push (PySem.HandSPX.excO C hp.objs.size)) kk hsz (exo_ok hget)
  have r2 : Vals (V.ref (hp.objs.size + 1) :: []) (Value.ref (hp.objs.size + 1) :: []) := .cons rfl .nil
  have hdel : del (upd H (hp.objs.size + 1) (exo (hp.objs.size + 1) C none)) (hp.objs.size + 1) = H := by
    funext b
    by_cases e : b = hp.objs.size + 1
    · rw [e, del_same, hn]
    · rw [del_ne e, upd_ne e]
  have hq : spI C [] (V.ref (hp.objs.size + 1) :: []) (upd H (hp.objs.size + 1) (exo (hp.objs.size + 1) C none))
      (fun v H2 => v = .non ∧ H2 (hp.objs.size + 1) = some (exo (hp.objs.size + 1) C none) ∧ Q (.ref C) none (del H2 (hp.objs.size + 1))) (fun _ _ _ => False) := ⟨_, [], rfl, rfl, upd_same, rfl, upd_same, by rw [hdel]; exact h⟩
  have hl : (Value.ref (hp.objs.size + 1) :: [] ++ []).length = ps.length := by
    have e := r2.length
    rw [F1.len _ _ _ _ hq] at e
    rw [List.append_nil]
    exact e.symm
  have b2 := hb _ (Value.ref (hp.objs.size + 1) :: []) I2.kIn hl
  rw [List.append_nil] at b2
  have hr1 : Room 1 (X.A.under (.builtin "type.__call__" ⟨.ref C :: [], []⟩)) := (hr.mono (by omega : 2 ≤ k + 2)).make C [] []
  refine wpAny_call (PySem.HandSPX.call_own F.excBase_ValueError (fun Y => PySem.HandSPX.refsVE_contains Y bm hbm) (I.kIn _ _ hC) (PySem.W.looks_findIn I.kIn iC) (fun self => PySem.W.bind_fn I.kIn self tI') (show ([] : List Value).length ≤ sizeLine from Nat.zero_le _)
    (codeAny_mono (F1.run _ X.stack _ _ ⟨Value.ref (hp.objs.size + 1) :: [], []⟩ (Value.ref (hp.objs.size + 1) :: []) _ _ (fun _ _ _ => False) hr1 (I2.env0.make C [] []) b2 r2 hq) fun r s' hq' => ?_))
  cases r with
  | error er => exact hq'.elim
  | ok fl =>
    cases fl with
    | ret u =>
      obtain ⟨v, H2, os2, bare2, un2, hok2, rv, ev, ea, q2⟩ := hq'
      subst ev
      obtain ⟨h2, g2, d2, t2, os'⟩ := s'
      obtain ⟨t0, G, J, kG, ge, hoe, na⟩ := mk_end00 (d2 := d2) (t2 := t2) I hsz kk un2 hok2 os2 bare2 ea
      refine ⟨rv, ⟨hp.objs.size + 1, _, _, ⟨G, g2, d2, t2, os'⟩, _, .ref C, none, rfl, J, kG, ge, hoe, ⟨rfl, rfl, fun vs hv => ?_⟩, rfl, rfl, na, rfl, bare2, raises_own T.exC T.tyC, q2⟩⟩
      cases hv
      rfl
    | next => exact False.elim hq'
    | brk => exact False.elim hq'
    | cont => exact False.elim hq'
def s_raise0 (c : Str) : MS := fun ρ S => .exc c [] [] ρ S
theorem ss_raise0 {k : Nat} (E1 : ErrC X.prog X.w X.K X.mg X.base x [] C) (hr : Room (k + 2) X.A) (hc : X.calm = true) (tk : L2N.Takes X Z) (hg : Gl X x) (hdb : (x == ("__debug__" : Str)) = false := by decide) :
    SS X Z (.Raise (some (.Call (.Name x p) [] [] pos)) none pos2) (s_raise0 x) := (L2N.ps_raise hc tk (pmk0 (k := k) E1 hr hg hdb)).imp fun D σ H h => by
  obtain ⟨φ, S, ρ, s, e, p⟩ := h
  exact p C none σ H φ (.refl _ _) s e E1.g (.inl ⟨rfl, rfl⟩)
end
end Ev

set_option Elab.async false
set_option linter.all false
set_option maxRecDepth 100000
set_option maxHeartbeats 2000000
/-! Ev12: the rules as a printed derivation takes them. -/
namespace Ev
open PySem PySem.Spec PyProof.Rows L2

/-- where a body's statement stands -/
structure Here (P : Program) (w : World) (K : PySem.W.Frag) (mg : Str → Option Value) (base : Heap) (N : List Str) (sc : Scope) (fs : Str → Bool) (X : Cx) : Prop where
  p : X.prog = P
  w : X.w = w
  k : X.K = K
  m : X.mg = mg
  b : X.base = base
  n : X.N = N
  s : X.env.scope = sc
  nd : N.Nodup
  kd : sc.kind = .function
  fn : X.fn = fs
def relabS (scope sc : Scope) : Scope := { scope with names := scope.names.map fun (n, k) => if (k == .free && sc.kind == .function && sc.names.lookup n == some .cell) = true then (n, .cell) else (n, k) }
def ownB (scope : Scope) (x : Str) : Bool := scope.names.lookup x == some .cell
structure Top (X : Cx) : Prop where
  st : X.stack = X.env :: X.outer
  fr : X.env.frame = some X.env.locals
def isVis (sc : Scope) (x : Str) : Bool := match sc.names.lookup x with
  | some .local => true
  | some .cell => true
  | some .free => true
  | _ => false
def isLoc (sc : Scope) (x : Str) : Bool := match sc.names.lookup x with
  | some .local => true
  | some .cell => true
  | _ => false
def isGl (sc : Scope) (x : Str) : Bool := match sc.names.lookup x with
  | some .globalImplicit => true
  | _ => false
def isLc (sc : Scope) (x : Str) : Bool := match sc.names.lookup x with
  | some .local => true
  | _ => false
def okName (x : Str) : Bool := !(x == ("__debug__" : Str)) && (!(x == ("__classdict__" : Str)) && !(x == ("__name__" : Str)))
theorem okD {x : Str} (h : okName x = true) : (x == ("__debug__" : Str)) = false := by
  unfold okName at h
  simp only [Bool.and_eq_true, Bool.not_eq_true'] at h
  exact h.1
theorem okC {x : Str} (h : okName x = true) : (x == ("__classdict__" : Str)) = false := by
  unfold okName at h
  simp only [Bool.and_eq_true, Bool.not_eq_true'] at h
  exact h.2.1
theorem okN {x : Str} (h : okName x = true) : x ≠ "__name__" := by
  unfold okName at h
  simp only [Bool.and_eq_true, Bool.not_eq_true'] at h
  intro e
  subst e
  simp at h
section
variable {P : Program} {w : World} {K : PySem.W.Frag} {mg : Str → Option Value} {base : Heap} {N : List Str} {sc : Scope} {fs : Str → Bool} {X : Cx} {Z : WX} {k : Nat}
theorem Here.vis (h : Here P w K mg base N sc fs X) {x : Str} (e : isVis sc x = true) : Vis X.env.scope x := by
  unfold isVis at e
  unfold Vis
  rw [h.s]
  split at e
  · exact .inl (by assumption)
  · exact .inr (.inl (by assumption))
  · exact .inr (.inr (by assumption))
  · cases e
theorem Here.loc (h : Here P w K mg base N sc fs X) {x : Str} (e : isLoc sc x = true) (f : (isLc sc x || fs x) = true) : L2.Loc X.env.scope x ∧ (X.fn x = true ∨ X.env.scope.names.lookup x = some .local) := by
  unfold isLoc at e
  unfold L2.Loc
  rw [h.s]
  split at e
  · rename_i q; exact ⟨.inl q, .inr q⟩
  · rename_i q
    refine ⟨.inr q, .inl ?_⟩
    rw [h.fn]
    unfold isLc at f
    rw [q] at f
    simpa using f
  · cases e
theorem Here.gl (h : Here P w K mg base N sc fs X) {x : Str} (e : isGl sc x = true) : Gl X x := by
  unfold isGl at e
  unfold Gl Env.kindOf
  rw [h.s]
  split at e
  · assumption
  · cases e
theorem Here.lc (h : Here P w K mg base N sc fs X) {x : Str} (e : isLc sc x = true) : X.env.scope.names.lookup x = some .local := by
  unfold isLc at e
  rw [h.s]
  split at e
  · assumption
  · cases e
theorem Here.nN (h : Here P w K mg base N sc fs X) {x : Str} {i : Nat} (e : N[i]? = some x) : X.N[i]? = some x := by rw [h.n]; exact e
theorem Here.ndX (h : Here P w K mg base N sc fs X) : X.N.Nodup := by rw [h.n]; exact h.nd
theorem Here.mg' (h : Here P w K mg base N sc fs X) {x : Str} {v : Option Value} (e : mg x = v) : X.mg x = v := by rw [h.m]; exact e
theorem Ctx.hu {X : Cx} {Z : WX} {k : Nat} (c : Ctx X Z k) : X.A.units + 65 < cLine := by have := c.room.un; omega
theorem CtxH.hu {X : Cx} {Z : WX} {k : Nat} {p : Addr × Obj} (c : CtxH X Z k p) : X.A.units + 65 < cLine := by have := c.room.un; omega
/-! ### names -/
section
variable {x : Str} {pos p : Pos} {a b : Expr} {ma mb : ME}
theorem v_var (h : Here P w K mg base N sc fs X) (i : Nat) (hn : N[i]? = some x := by rfl) (hv : isVis sc x = true := by rfl) (hd : okName x = true := by rfl) : SE X Z (.Name x pos) (m_var i) := se_var i (h.nN hn) (h.vis hv) (okD hd) (okC hd)
theorem v_gint (h : Here P w K mg base N sc fs X) {i : Int} (hm : ∃ t, mg x = some (.int i t)) (hg : isGl sc x = true := by rfl) (hd : okName x = true := by rfl) : SE X Z (.Name x pos) (m_c (.int i)) := by
  obtain ⟨t, hm⟩ := hm
  exact se_gint (h.gl hg) (h.mg' hm) (okD hd)
theorem v_gstr (h : Here P w K mg base N sc fs X) {i : Str} (hm : ∃ t, mg x = some (.str i t)) (hg : isGl sc x = true := by rfl) (hd : okName x = true := by rfl) : SE X Z (.Name x pos) (m_c (.str i)) := by
  obtain ⟨t, hm⟩ := hm
  exact se_gstr (h.gl hg) (h.mg' hm) (okD hd)
/-! ### binary -/
theorem v_add (ha : SE X Z a ma) (hb : SE X Z b mb) : SE X Z (.BinOp a .Add b pos) (m_op2 wAdd ma mb) := se_bin op_addA os_add ha hb
theorem v_sub (ha : SE X Z a ma) (hb : SE X Z b mb) : SE X Z (.BinOp a .Sub b pos) (m_op2 wSub ma mb) := se_bin op_sub os_sub ha hb
theorem v_mul (ha : SE X Z a ma) (hb : SE X Z b mb) : SE X Z (.BinOp a .Mult b pos) (m_op2 wMul ma mb) := se_bin op_mulW os_mul ha hb
theorem v_div (ha : SE X Z a ma) (hb : SE X Z b mb) : SE X Z (.BinOp a .FloorDiv b pos) (m_op2 wDiv ma mb) := se_bin op_fdivW os_div ha hb
theorem v_mod (ha : SE X Z a ma) (hb : SE X Z b mb) : SE X Z (.BinOp a .Mod b pos) (m_op2 wMod ma mb) := se_bin op_mod os_mod ha hb
theorem v_pow (ha : SE X Z a ma) (hb : SE X Z b mb) : SE X Z (.BinOp a .Pow b pos) (m_op2 wPow ma mb) := se_bin op_pow os_pow ha hb
theorem v_neg (ha : SE X Z a ma) : SE X Z (.UnaryOp .USub a pos) (m_op1 wNeg ma) := se_un un_neg us_neg ha
/-! ### compare -/
theorem v_lt (ha : SE X Z a ma) (hb : SE X Z b mb) (hm : behindInMarks .Lt b = false := by rfl) : SE X Z (.Compare a [.Lt] [b] pos) (m_op2 wLt ma mb) := se_cmp op_ltA os_lt ha hb hm
theorem v_le (ha : SE X Z a ma) (hb : SE X Z b mb) (hm : behindInMarks .LtE b = false := by rfl) : SE X Z (.Compare a [.LtE] [b] pos) (m_op2 wLe ma mb) := se_cmp op_leA os_le ha hb hm
theorem v_gt (ha : SE X Z a ma) (hb : SE X Z b mb) (hm : behindInMarks .Gt b = false := by rfl) : SE X Z (.Compare a [.Gt] [b] pos) (m_op2 wGt ma mb) := se_cmp op_gtA os_gt ha hb hm
theorem v_ge (ha : SE X Z a ma) (hb : SE X Z b mb) (hm : behindInMarks .GtE b = false := by rfl) : SE X Z (.Compare a [.GtE] [b] pos) (m_op2 wGe ma mb) := se_cmp op_geA os_ge ha hb hm
theorem v_eq (hu : X.A.units + 65 < cLine) (ha : SE X Z a ma) (hb : SE X Z b mb) (hm : behindInMarks .Eq b = false := by rfl) : SE X Z (.Compare a [.Eq] [b] pos) (m_op2 wEq ma mb) := se_cmp (op_eqD (by omega)) os_eq ha hb hm
theorem v_ne (hu : X.A.units + 65 < cLine) (ha : SE X Z a ma) (hb : SE X Z b mb) (hm : behindInMarks .NotEq b = false := by rfl) : SE X Z (.Compare a [.NotEq] [b] pos) (m_op2 wNe ma mb) := se_cmp (op_neD (by omega)) os_ne ha hb hm
theorem v_is (ha : SE X Z a ma) (hb : SE X Z b mb) (hm : behindInMarks .Is b = false := by rfl) : SE X Z (.Compare a [.Is] [b] pos) (m_op2 wIsN ma mb) := se_cmp op_isN os_isN ha hb hm
theorem v_isnot (ha : SE X Z a ma) (hb : SE X Z b mb) (hm : behindInMarks .IsNot b = false := by rfl) : SE X Z (.Compare a [.IsNot] [b] pos) (m_op2 wNotN ma mb) := se_cmp op_notN os_notN ha hb hm
theorem v_in (hu : X.A.units + 65 < cLine) (ha : SE X Z a ma) (hb : SE X Z b mb) (hm : behindInMarks .In b = false := by rfl) : SE X Z (.Compare a [.In] [b] pos) (m_op2 wIn ma mb) := se_cmp (op_inA hu) os_in ha hb hm
theorem v_notin (hu : X.A.units + 65 < cLine) (ha : SE X Z a ma) (hb : SE X Z b mb) (hm : behindInMarks .NotIn b = false := by rfl) : SE X Z (.Compare a [.NotIn] [b] pos) (m_op2 wNotIn ma mb) := se_cmp (op_notInA hu) os_notIn ha hb hm
theorem z_lt (ha : SE X Z a ma) (hb : SE X Z b mb) (hm : behindInMarks .Lt b = false := by rfl) : ST X Z (.Compare a [.Lt] [b] pos) (t_val (m_op2 wLt ma mb)) := st_cmp op_ltA os_lt ha hb hm
theorem z_le (ha : SE X Z a ma) (hb : SE X Z b mb) (hm : behindInMarks .LtE b = false := by rfl) : ST X Z (.Compare a [.LtE] [b] pos) (t_val (m_op2 wLe ma mb)) := st_cmp op_leA os_le ha hb hm
theorem z_gt (ha : SE X Z a ma) (hb : SE X Z b mb) (hm : behindInMarks .Gt b = false := by rfl) : ST X Z (.Compare a [.Gt] [b] pos) (t_val (m_op2 wGt ma mb)) := st_cmp op_gtA os_gt ha hb hm
theorem z_ge (ha : SE X Z a ma) (hb : SE X Z b mb) (hm : behindInMarks .GtE b = false := by rfl) : ST X Z (.Compare a [.GtE] [b] pos) (t_val (m_op2 wGe ma mb)) := st_cmp op_geA os_ge ha hb hm
theorem z_eq (hu : X.A.units + 65 < cLine) (ha : SE X Z a ma) (hb : SE X Z b mb) (hm : behindInMarks .Eq b = false := by rfl) : ST X Z (.Compare a [.Eq] [b] pos) (t_val (m_op2 wEq ma mb)) := st_cmp (op_eqD (by omega)) os_eq ha hb hm
theorem z_ne (hu : X.A.units + 65 < cLine) (ha : SE X Z a ma) (hb : SE X Z b mb) (hm : behindInMarks .NotEq b = false := by rfl) : ST X Z (.Compare a [.NotEq] [b] pos) (t_val (m_op2 wNe ma mb)) := st_cmp (op_neD (by omega)) os_ne ha hb hm
theorem z_is (ha : SE X Z a ma) (hb : SE X Z b mb) (hm : behindInMarks .Is b = false := by rfl) : ST X Z (.Compare a [.Is] [b] pos) (t_val (m_op2 wIsN ma mb)) := st_cmp op_isN os_isN ha hb hm
theorem z_isnot (ha : SE X Z a ma) (hb : SE X Z b mb) (hm : behindInMarks .IsNot b = false := by rfl) : ST X Z (.Compare a [.IsNot] [b] pos) (t_val (m_op2 wNotN ma mb)) := st_cmp op_notN os_notN ha hb hm
theorem z_in (hu : X.A.units + 65 < cLine) (ha : SE X Z a ma) (hb : SE X Z b mb) (hm : behindInMarks .In b = false := by rfl) : ST X Z (.Compare a [.In] [b] pos) (t_val (m_op2 wIn ma mb)) := st_cmp (op_inA hu) os_in ha hb hm
theorem z_notin (hu : X.A.units + 65 < cLine) (ha : SE X Z a ma) (hb : SE X Z b mb) (hm : behindInMarks .NotIn b = false := by rfl) : ST X Z (.Compare a [.NotIn] [b] pos) (t_val (m_op2 wNotIn ma mb)) := st_cmp (op_notInA hu) os_notIn ha hb hm
/-! ### builtins -/
theorem v_len (h : Here P w K mg base N sc fs X) (hm : mg "len" = none) (ha : SE X Z a ma) (hg : isGl sc "len" = true := by rfl) (he : starEach [a] X.env = (false, eval a X.env) :: starEach [] X.env := by rfl) (hpl : (backTo pos (starEach [] X.env)).any (·.1) = false := by rfl) : SE X Z (.Call (.Name "len" p) [a] [] pos) (m_b1 fLen ma) := se_b1 call_lenA c_len (h.gl hg) (h.mg' hm) boot_len ha (he := he) (hpl := hpl)
theorem v_abs (h : Here P w K mg base N sc fs X) (hm : mg "abs" = none) (ha : SE X Z a ma) (hg : isGl sc "abs" = true := by rfl) (he : starEach [a] X.env = (false, eval a X.env) :: starEach [] X.env := by rfl) (hpl : (backTo pos (starEach [] X.env)).any (·.1) = false := by rfl) : SE X Z (.Call (.Name "abs" p) [a] [] pos) (m_b1 fAbs ma) := se_b1 call_abs c_abs (h.gl hg) (h.mg' hm) (by decide +kernel) ha (he := he) (hpl := hpl)
theorem v_sum (h : Here P w K mg base N sc fs X) (hc : X.calm = true) (hm : mg "sum" = none) (ha : SE X Z a ma) (hg : isGl sc "sum" = true := by rfl) (he : starEach [a] X.env = (false, eval a X.env) :: starEach [] X.env := by rfl) (hpl : (backTo pos (starEach [] X.env)).any (·.1) = false := by rfl) : SE X Z (.Call (.Name "sum" p) [a] [] pos) (m_b1 fSum ma) := se_b1 (cr_sum hc) c_sum (h.gl hg) (h.mg' hm) (by decide +kernel) ha (he := he) (hpl := hpl)
theorem v_all (h : Here P w K mg base N sc fs X) (hc : X.calm = true) (hm : mg "all" = none) (ha : SE X Z a ma) (hg : isGl sc "all" = true := by rfl) (he : starEach [a] X.env = (false, eval a X.env) :: starEach [] X.env := by rfl) (hpl : (backTo pos (starEach [] X.env)).any (·.1) = false := by rfl) : SE X Z (.Call (.Name "all" p) [a] [] pos) (m_b1 fAll ma) := se_b1 (cr_all hc) c_all (h.gl hg) (h.mg' hm) (by decide +kernel) ha (he := he) (hpl := hpl)
theorem v_any (h : Here P w K mg base N sc fs X) (hc : X.calm = true) (hm : mg "any" = none) (ha : SE X Z a ma) (hg : isGl sc "any" = true := by rfl) (he : starEach [a] X.env = (false, eval a X.env) :: starEach [] X.env := by rfl) (hpl : (backTo pos (starEach [] X.env)).any (·.1) = false := by rfl) : SE X Z (.Call (.Name "any" p) [a] [] pos) (m_b1 fAny ma) := se_b1 (cr_any hc) c_any (h.gl hg) (h.mg' hm) (by decide +kernel) ha (he := he) (hpl := hpl)
theorem v_minL (h : Here P w K mg base N sc fs X) (hc : X.calm = true) (hm : mg "min" = none) (ha : SE X Z a ma) (hg : isGl sc "min" = true := by rfl) (he : starEach [a] X.env = (false, eval a X.env) :: starEach [] X.env := by rfl) (hpl : (backTo pos (starEach [] X.env)).any (·.1) = false := by rfl) : SE X Z (.Call (.Name "min" p) [a] [] pos) (m_b1 fMinL ma) := se_b1 (cr_min hc) c_minL (h.gl hg) (h.mg' hm) (by decide +kernel) ha (he := he) (hpl := hpl)
theorem v_maxL (h : Here P w K mg base N sc fs X) (hc : X.calm = true) (hm : mg "max" = none) (ha : SE X Z a ma) (hg : isGl sc "max" = true := by rfl) (he : starEach [a] X.env = (false, eval a X.env) :: starEach [] X.env := by rfl) (hpl : (backTo pos (starEach [] X.env)).any (·.1) = false := by rfl) : SE X Z (.Call (.Name "max" p) [a] [] pos) (m_b1 fMaxL ma) := se_b1 (cr_max hc) c_maxL (h.gl hg) (h.mg' hm) (by decide +kernel) ha (he := he) (hpl := hpl)
theorem v_min2 (h : Here P w K mg base N sc fs X) (hc : X.calm = true) (hm : mg "min" = none) (ha : SE X Z a ma) (hb : SE X Z b mb) (hg : isGl sc "min" = true := by rfl) (he : starEach [a, b] X.env = (false, eval a X.env) :: starEach [b] X.env := by rfl) (he2 : starEach [b] X.env = (false, eval b X.env) :: starEach [] X.env := by rfl) (hpl : (backTo pos (starEach [b] X.env)).any (·.1) = false := by rfl) : SE X Z (.Call (.Name "min" p) [a, b] [] pos) (m_b2 fMin2 ma mb) := se_b2 (call_min2 hc) c_min2 (h.gl hg) (h.mg' hm) (by decide +kernel) ha hb (he := he) (he2 := he2) (hpl := hpl)
theorem v_max2 (h : Here P w K mg base N sc fs X) (hc : X.calm = true) (hm : mg "max" = none) (ha : SE X Z a ma) (hb : SE X Z b mb) (hg : isGl sc "max" = true := by rfl) (he : starEach [a, b] X.env = (false, eval a X.env) :: starEach [b] X.env := by rfl) (he2 : starEach [b] X.env = (false, eval b X.env) :: starEach [] X.env := by rfl) (hpl : (backTo pos (starEach [b] X.env)).any (·.1) = false := by rfl) : SE X Z (.Call (.Name "max" p) [a, b] [] pos) (m_b2 fMax2 ma mb) := se_b2 (call_max2 hc) c_max2 (h.gl hg) (h.mg' hm) (by decide +kernel) ha hb (he := he) (he2 := he2) (hpl := hpl)
theorem v_int (h : Here P w K mg base N sc fs X) (hm : mg "int" = none) (ha : SE X Z a ma) (hg : isGl sc "int" = true := by rfl) (he : starEach [a] X.env = (false, eval a X.env) :: starEach [] X.env := by rfl) (hpl : (backTo pos (starEach [] X.env)).any (·.1) = false := by rfl) : SE X Z (.Call (.Name "int" p) [a] [] pos) (m_b1 fInt ma) := se_t1 call_int1 c_int (h.gl hg) (h.mg' hm) (by decide +kernel) ha (he := he) (hpl := hpl)
theorem v_list (h : Here P w K mg base N sc fs X) (hm : mg "list" = none) (ha : SE X Z a ma) (hg : isGl sc "list" = true := by rfl) (he : starEach [a] X.env = (false, eval a X.env) :: starEach [] X.env := by rfl) (hpl : (backTo pos (starEach [] X.env)).any (·.1) = false := by rfl) : SE X Z (.Call (.Name "list" p) [a] [] pos) (m_b1 fList ma) := se_t1 call_list_of c_list (h.gl hg) (h.mg' hm) (by decide +kernel) ha (he := he) (hpl := hpl)
theorem v_tuple (h : Here P w K mg base N sc fs X) (hm : mg "tuple" = none) (ha : SE X Z a ma) (hg : isGl sc "tuple" = true := by rfl) (he : starEach [a] X.env = (false, eval a X.env) :: starEach [] X.env := by rfl) (hpl : (backTo pos (starEach [] X.env)).any (·.1) = false := by rfl) : SE X Z (.Call (.Name "tuple" p) [a] [] pos) (m_b1 fTuple ma) := se_t1 call_tuple_of c_tuple (h.gl hg) (h.mg' hm) (by decide +kernel) ha (he := he) (hpl := hpl)
theorem v_ty (h : Here P w K mg base N sc fs X) {t : String} (hm : mg x = none) (hv : bootBuiltins x = some (.type t)) (hg : isGl sc x = true := by rfl) (hd : okName x = true := by rfl) : PE X (.Name x pos) (tC (.ty t)) := pe_tyn (h.gl hg) (h.mg' hm) hv (okN hd) (okD hd)
theorem v_isi1 (h : Here P w K mg base N sc fs X) {t : String} {e : Expr} (hm : mg "isinstance" = none) (ha : SE X Z a ma) (ht : PE X e (tC (.ty t))) (hb : t ∈ ["bool", "int", "str", "tuple", "list", "dict"] := by decide) (hg : isGl sc "isinstance" = true := by rfl) (he : starEach [a, e] X.env = (false, eval a X.env) :: starEach [e] X.env := by rfl) (he2 : starEach [e] X.env = (false, eval e X.env) :: starEach [] X.env := by rfl) (hpl : (backTo pos (starEach [e] X.env)).any (·.1) = false := by rfl) : SE X Z (.Call (.Name "isinstance" p) [a, e] [] pos) (m_isi ma [t]) := se_isi1 (h.gl hg) (h.mg' hm) hb ha ht he he2 hpl
theorem v_isiN (h : Here P w K mg base N sc fs X) {ts : List String} {es : List Expr} {kk : Nat} {pt : Pos} (hm : mg "isinstance" = none) (ha : SE X Z a ma) (ht : PA X es (tTys ts)) (hb : ∀ b ∈ ts, b ∈ ["bool", "int", "str", "tuple", "list", "dict"] := by decide) (hz : ts.length ≤ 1000 := by decide) (hg : isGl sc "isinstance" = true := by rfl) (he : starEach [a, .Tuple es kk pt] X.env = (false, eval a X.env) :: starEach [.Tuple es kk pt] X.env := by rfl) (he2 : starEach [.Tuple es kk pt] X.env = (false, eval (.Tuple es kk pt) X.env) :: starEach [] X.env := by rfl) (hpl : (backTo pos (starEach [.Tuple es kk pt] X.env)).any (·.1) = false := by rfl) :
    SE X Z (.Call (.Name "isinstance" p) [a, .Tuple es kk pt] [] pos) (m_isi ma ts) := se_isiN (h.gl hg) (h.mg' hm) hb hz ha ht he he2 hpl
/-! ### statements -/
theorem v_set (h : Here P w K mg base N sc fs X) (i : Nat) {e : Expr} {me : ME} {pos' : Pos} (he : SE X Z e me) (hs : swapsWith e (some (.Name x pos')) pos.line X.env = pure false := by rfl) (hn : N[i]? = some x := by rfl) (hl : isLoc sc x = true := by rfl) (hf : (isLc sc x || fs x) = true := by rfl) :
    SS X Z (.Assign [.Name x pos'] e pos) (s_set i me) := ss_set h.ndX (h.nN hn) (h.loc hl hf).1 he hs (h.loc hl hf).2
theorem v_gname (h : Here P w K mg base N sc fs X) (i : Nat) (hn : N[i]? = some x := by rfl) (hl : isLoc sc x = true := by rfl) (hf : (isLc sc x || fs x) = true := by rfl) : SG X Z [i] (.Name x pos) (g_name i) := sg_name h.ndX (h.nN hn) (h.loc hl hf).1 (h.loc hl hf).2
theorem sw_cell {elt : Expr} {gs : List Comprehension} {scope : Scope} {pos py : Pos} {y : Str} {l : Nat} (h : Here P w K mg base N sc fs X) (hy : isLc sc y = false) : swapsWith (.ListComp elt gs scope pos) (some (.Name y py)) l X.env = pure false := by
  have ky : (X.env.kindOf y == some .local) = false := by
    unfold Env.kindOf
    rw [h.s]
    unfold isLc at hy
    split at hy
    · cases hy
    · rename_i q
      cases e : sc.names.lookup y with
      | none => rfl
      | some k =>
        cases k with
        | «local» => exact (q e).elim
        | _ => rfl
  unfold swapsWith
  simp only [ky, Bool.and_false, Bool.false_and]
end
/-! ### comprehensions -/
def blkB (N : List Str) (sc scope : Scope) (own : List (Str × Nat)) : Bool :=
  (scope.kind == .function) && (scope.names.all fun y => decide (scope.names.lookup y.1 = some y.2)) && (own.all fun p => decide (N[p.2]? = some p.1)) &&
  (scope.names.all fun y => !decide (y.2 = .free) || (decide (sc.names.lookup y.1 = some .cell) || decide (sc.names.lookup y.1 = some .free))) &&
  (scope.names.all fun y => !(decide (y.2 = .local) || decide (y.2 = .cell)) || (decide (y.1 ∈ own.map (·.1)) || !decide (y.1 ∈ N)))
theorem blkB_ok {N : List Str} {sc scope : Scope} {own : List (Str × Nat)} (h : blkB N sc scope own = true) : BlkOk N sc scope own := by
  unfold blkB at h
  simp only [Bool.and_eq_true] at h
  obtain ⟨⟨⟨⟨h1, h2⟩, h3⟩, h4⟩, h5⟩ := h
  refine ⟨?_, fun y hy => ?_, fun y hy => ?_, fun y hy e => ?_, fun y hy e => ?_⟩
  · revert h1
    cases scope.kind <;> first | (intro _; rfl) | (intro z; cases z)
  · exact of_decide_eq_true (List.all_eq_true.mp h2 y hy)
  · exact of_decide_eq_true (List.all_eq_true.mp h3 y hy)
  · have q := List.all_eq_true.mp h4 y hy
    rw [decide_eq_true e] at q
    simpa using q
  · have q := List.all_eq_true.mp h5 y hy
    have e2 : (decide (y.2 = .local) || decide (y.2 = .cell)) = true := by
      rcases e with e | e
      · rw [decide_eq_true e]; rfl
      · rw [decide_eq_true e, Bool.or_true]
    rw [e2] at q
    simpa using q
theorem Here.blk (h : Here P w K mg base N sc fs X) {s : Shared} {H : Hp} {scope : Scope} {C : Addr} {cl : List (Str × Addr)} {fp : List Addr} (hk : scope.kind = .function) : Here P w K mg base N (relabS scope sc) (ownB scope) (X.blk s H scope (compEnvC scope cl C X.env) fp) :=
  ⟨h.p, h.w, h.k, h.m, h.b, h.n, by show relabel scope X.env = _; rw [← h.s]; rfl, h.nd, hk, rfl⟩
section
variable {tg iter elt : Expr} {ifs : List Expr} {mi : MI} {mg' : MG} {mt : MT} {me : ME} {ts : List Nat} {scope : Scope} {pos : Pos}
theorem v_lc (h : Here P w K mg base N sc fs X) (c : Ctx X Z k) (own : List (Str × Nat)) (hi : SI X Z tg iter mi)
    (hg : ∀ X, Here P w K mg base N (relabS scope sc) (ownB scope) X → Ctx X Zf k → SG X Zf ts tg mg') (ht : ∀ X, Here P w K mg base N (relabS scope sc) (ownB scope) X → Ctx X Zf k → STs X Zf ifs mt) (he : ∀ X, Here P w K mg base N (relabS scope sc) (ownB scope) X → Ctx X Zf k → SE X Zf elt me)
    (ok : blkB N sc scope own = true := by decide +kernel) (hv : ∀ i ∈ ts, i ∈ own.map (·.2) := by decide) (hs : ∀ x, foldedSetIterable iter X.env x = pure x := by intro _; rfl) :
    SE X Z (.ListComp elt [⟨tg, iter, ifs, 0⟩] scope pos) (m_lc mi (own.map (·.2)) mg' mt me) := by
  have B := blkB_ok ok
  refine se_lc c.calm h.ndX hi (by rw [h.n, h.s]; exact B) hv (fun s H C cl fp => hg _ (h.blk B.kind) c.blk) (fun s H C cl fp => ht _ (h.blk B.kind) c.blk) (fun s H C cl fp => he _ (h.blk B.kind) c.blk) hs
theorem v_setLc (h : Here P w K mg base N sc fs X) (c : Ctx X Z k) (i : Nat) {y : Str} {py spos : Pos} (own : List (Str × Nat)) (hi : SI X Z tg iter mi)
    (hg : ∀ X, Here P w K mg base N (relabS scope sc) (ownB scope) X → Ctx X Zf k → SG X Zf ts tg mg') (ht : ∀ X, Here P w K mg base N (relabS scope sc) (ownB scope) X → Ctx X Zf k → STs X Zf ifs mt) (he : ∀ X, Here P w K mg base N (relabS scope sc) (ownB scope) X → Ctx X Zf k → SE X Zf elt me)
    (ok : blkB N sc scope own = true := by decide +kernel) (hv : ∀ i ∈ ts, i ∈ own.map (·.2) := by decide) (hn : N[i]? = some y := by rfl) (hl : isLc sc y = true := by rfl) (hpl : (py.line == pos.line) = true := by rfl)
    (hany : (scope.names.any fun (n, k) => n == y && (k == .local || k == .cell)) = false := by decide +kernel) (hs : ∀ x, foldedSetIterable iter X.env x = pure x := by intro _; rfl) :
    SS X Z (.Assign [.Name y py] (.ListComp elt [⟨tg, iter, ifs, 0⟩] scope pos) spos) (s_set i (m_lc mi (own.map (·.2)) mg' mt me)) := by
  have B := blkB_ok ok
  refine ss_setLc c.calm h.ndX (h.nN hn) (h.lc hl) (sw_true (by rw [h.s]; exact h.kd) (h.lc hl) hpl hany) hi (by rw [h.n, h.s]; exact B) hv (fun s H C cl fp => hg _ (h.blk B.kind) c.blk) (fun s H C cl fp => ht _ (h.blk B.kind) c.blk) (fun s H C cl fp => he _ (h.blk B.kind) c.blk) hs
end
/-! ### iteration -/
section
variable {tg iter a b : Expr} {mi : MI} {mg' : MG} {mb ma : ME} {ms : MS} {ts : List Nat} {body : List Stmt} {pos p : Pos}
theorem v_range1 (h : Here P w K mg base N sc fs X) (hm : mg "range" = none) (ha : SE X Z a ma) (hg : isGl sc "range" = true := by rfl) (hs : starEach [a] X.env = [(false, eval a X.env)] := by rfl) : SI X Z tg (.Call (.Name "range" p) [a] [] pos) (i_range1 ma) := si_range1 (h.gl hg) (h.mg' hm) ha hs
theorem v_range2 (h : Here P w K mg base N sc fs X) (hm : mg "range" = none) (ha : SE X Z a ma) (hb : SE X Z b mb) (hg : isGl sc "range" = true := by rfl) (hs : starEach [a, b] X.env = [(false, eval a X.env), (false, eval b X.env)] := by rfl) (hs2 : starEach [b] X.env = [(false, eval b X.env)] := by rfl) : SI X Z tg (.Call (.Name "range" p) [a, b] [] pos) (i_range2 ma mb) := si_range2 (h.gl hg) (h.mg' hm) ha hb hs hs2
theorem v_for (c : Ctx X Z k) (clr : List Nat) (hi : SI X Z tg iter mi) (hg : SG X Z ts tg mg') (hb : SSs X Z body ms) (hs : ∀ x, foldedSetIterable iter X.env x = pure x := by intro _; rfl) : SS X Z (.For tg iter body [] pos) (s_for mi mg' clr ms) := ss_for clr c.po c.calm hi hg hb hs
theorem v_forH {p0 : Addr × Obj} (c : CtxH X Z k p0) (clr : List Nat) (hi : SIH X Z tg iter mi) (hg : SG X Z ts tg mg') (hb : SSs X Z body ms) (hs : ∀ x, foldedSetIterable iter X.env x = pure x := by intro _; rfl) : SS X Z (.For tg iter body [] pos) (s_for mi mg' clr ms) := ss_forH clr c.po c.hotC hi hg hb hs
end
/-! ### defs -/
def FnS (K : PySem.W.Frag) (mg : Str → Option Value) (x : Str) (st : Stmt) (ps : List Str) : Prop := ∃ f fd, mg x = some (.ref f) ∧ Fun K x x st f fd ∧ Binds K fd ps []
def DoesN (P : Program) (w : World) (K : PySem.W.Frag) (mg : Str → Option Value) (base : Heap) (k : Nat) (x : Str) (ps : List Str) (mf : List W → Store → R T) : Prop := ∃ f fd, mg x = some (.ref f) ∧ PySem.W.keepIn K (.ref f) = true ∧ Binds K fd ps [] ∧ Does P w K mg base k f fd ps mf
def DoesHN (P : Program) (w : World) (K : PySem.W.Frag) (mg : Str → Option Value) (base : Heap) (k : Nat) (x : Str) (ps : List Str) (mf : List W → Store → R T) : Prop := ∃ f fd, mg x = some (.ref f) ∧ PySem.W.keepIn K (.ref f) = true ∧ Binds K fd ps [] ∧ DoesH P w K mg base k f fd ps mf
theorem doesN {x : Str} {st : Stmt} {ps : List Str} {ms : MS} (F : FnS K mg x st ps) (S : FnScope N ps (defScope st)) (hb : ∀ X Z, Here P w K mg base N (defScope st) (fun _ => true) X → Top X → Ctx X Z k → SSs X Z (defBody st) ms) : DoesN P w K mg base (k + 1) x ps (mdef N.length ms) := by
  obtain ⟨f, fd, g, F, b⟩ := F
  refine ⟨f, fd, g, F.kp, b, does_of F S fun cdv A outer s H E hr tk => ?_⟩
  exact hb _ _ ⟨rfl, rfl, rfl, rfl, rfl, rfl, rfl, S.nd, S.kind, rfl⟩ ⟨rfl, rfl⟩ ⟨hr, rfl, tk, L2.passes_of rfl⟩
theorem doesHN {x : Str} {st : Stmt} {ps : List Str} {ms : MS} (F : FnS K mg x st ps) (S : FnScope N ps (defScope st)) (hb : ∀ X Z p, Here P w K mg base N (defScope st) (fun _ => true) X → Top X → CtxH X Z k p → SSs X Z (defBody st) ms) : DoesHN P w K mg base (k + 1) x ps (mdef N.length ms) := by
  obtain ⟨f, fd, g, F, b⟩ := F
  obtain ⟨oc, od, kV, doc, pm, an, cdv, ct, osl, rfl, lk, hcd⟩ := F.ex
  refine ⟨f, _, g, F.kp, b, ?_⟩
  have hpl : ps.length ≤ N.length := by have := congrArg List.length S.pre; rw [List.length_take] at this; omega
  refine fn_ofHp lk hcd S (fun p vs H Q E h => h.1) fun A outer s H vs Q E p hot hr hsp => ?_
  exact ⟨_, hb (L2H.cxH (L2N.CX P w) P w K mg base N x (defScope st) f cdv A outer s H E p) (fun C d _ H' => E C d H') p ⟨rfl, rfl, rfl, rfl, rfl, rfl, rfl, S.nd, S.kind, rfl⟩ ⟨rfl, rfl⟩ ⟨hr, rfl, hot, rfl, L2N.takes_of rfl rfl rfl rfl, L2.passes_of rfl⟩, body_run hpl hsp⟩
theorem doesNo {x : Str} {st : Stmt} {ps : List Str} (F : FnS K mg x st ps) (S : FnScope N ps (defScope st)) : DoesN P w K mg base k x ps (fun _ _ => .no) := by
  obtain ⟨f, fd, g, F, b⟩ := F
  refine ⟨f, fd, g, F.kp, b, ⟨fun vs H Q E h => h.1, fun A outer s H args us vs Q E hr e0 hb r hsp => ?_⟩⟩
  obtain ⟨_, _, _, _, _, _, q⟩ := hsp
  exact q.elim
theorem doesHNo {x : Str} {st : Stmt} {ps : List Str} (F : FnS K mg x st ps) (S : FnScope N ps (defScope st)) : DoesHN P w K mg base k x ps (fun _ _ => .no) := by
  obtain ⟨f, fd, g, F, b⟩ := F
  refine ⟨f, fd, g, F.kp, b, ⟨fun p vs H Q E h => h.1, fun A outer s H args us vs Q E p hr hot hpin e0 hb r hsp => ?_⟩⟩
  obtain ⟨_, _, _, _, _, _, q⟩ := hsp
  exact q.elim
section
variable {x : Str} {ps : List Str} {mf : List W → Store → R T} {j : Nat} {e : Expr} {es : List Expr} {m : MA} {p pos : Pos}
theorem v_call (h : Here P w K mg base N sc fs X) (c : Ctx X Z k) (D : DoesN P w K mg base j x ps mf) (hj : j ≤ k) (ha : SA X Z (e :: es) m) (hg : isGl sc x = true := by rfl) (hd : okName x = true := by rfl)
    (he : starEach (e :: es) X.env = (false, eval e X.env) :: starEach es X.env := by rfl) (hpl : (backTo pos (starEach es X.env)).any (·.1) = false := by rfl) : SE X Z (.Call (.Name x p) (e :: es) [] pos) (m_call ps.length mf m) := by
  obtain ⟨f, fd, g, kp, b, F⟩ := D
  obtain ⟨e1, e2, e3, e4, e5, e6, e7, e8, e9, e10⟩ := id h
  subst e1 e2 e3 e4 e5
  exact se_call F (c.room.mono hj) c.calm c.tk (h.gl hg) g kp b ha (okD hd) he hpl
theorem v_callH (h : Here P w K mg base N sc fs X) {p0 : Addr × Obj} (c : CtxH X Z k p0) (D : DoesHN P w K mg base j x ps mf) (hj : j ≤ k) (ha : SA X Z (e :: es) m) (hg : isGl sc x = true := by rfl) (hd : okName x = true := by rfl)
    (he : starEach (e :: es) X.env = (false, eval e X.env) :: starEach es X.env := by rfl) (hpl : (backTo pos (starEach es X.env)).any (·.1) = false := by rfl) : SE X Z (.Call (.Name x p) (e :: es) [] pos) (m_call ps.length mf m) := by
  obtain ⟨f, fd, g, kp, b, F⟩ := D
  obtain ⟨e1, e2, e3, e4, e5, e6, e7, e8, e9, e10⟩ := id h
  subst e1 e2 e3 e4 e5
  exact se_callH F (c.mono hj) (h.gl hg) g kp b ha (okD hd) he hpl
/-! ### errors -/
structure ErrX (P : Program) (w : World) (K : PySem.W.Frag) (mg : Str → Option Value) (base : Heap) (c : Str) (fs : List Str) (C : Addr) : Prop where
  e : ErrC P w K mg base c fs C
  x : ExK K C
  f : XfC K C
theorem v_raise {gs : List Str} {C : Addr} {pos2 : Pos} (h : Here P w K mg base N sc fs X) (c : Ctx X Z (k + 2)) (E : ErrX P w K mg base x gs C) (ha : SA X Z (e :: es) m) (h0 : gs ≠ [] := by decide) (hg : isGl sc x = true := by rfl) (hd : okName x = true := by rfl)
    (he : starEach (e :: es) X.env = (false, eval e X.env) :: starEach es X.env := by rfl) (hpl : (backTo pos (starEach es X.env)).any (·.1) = false := by rfl) :
    SS X Z (.Raise (some (.Call (.Name x p) (e :: es) [] pos)) none pos2) (s_raise x gs m) := by
  obtain ⟨e1, e2, e3, e4, e5, e6, e7, e8, e9, e10⟩ := id h
  subst e1 e2 e3 e4 e5
  exact ss_raise (k := k) E.e h0 c.room c.calm c.tk (h.gl hg) ha (okD hd) he hpl
theorem v_raise0 {C : Addr} {pos2 : Pos} (h : Here P w K mg base N sc fs X) (c : Ctx X Z (k + 2)) (E : ErrX P w K mg base x [] C) (hg : isGl sc x = true := by rfl) (hd : okName x = true := by rfl) :
    SS X Z (.Raise (some (.Call (.Name x p) [] [] pos)) none pos2) (s_raise0 x) := by
  obtain ⟨e1, e2, e3, e4, e5, e6, e7, e8, e9, e10⟩ := id h
  subst e1 e2 e3 e4 e5
  exact ss_raise0 (k := k) E.e c.room c.calm c.tk (h.gl hg) (okD hd)
end
/-! ### try -/
section
variable {x n f : Str} {i : Nat} {body suite : List Stmt} {b₀ : Stmt} {np pos pos' p p1 : Pos} {mb ms : MS} {known caught yes : List Str}
theorem v_try (h : Here P w K mg base N sc fs X) (t : Top X) (c : Ctx X Z k) (i : Nat) (cv : Value) (hcm : mg x = some cv ∨ (mg x = none ∧ bootBuiltins x = some cv ∧ x ≠ "__name__"))
    (hx : ∀ d ∈ known, ∀ C, mg d = some (.ref C) → PySem.W.exmOne K (.ref C) cv = some (decide (d ∈ caught)))
    (hb : ∀ X Z, Here P w K mg base N sc fs X → Top X → Ctx X Z k → SSs X Z body mb)
    (hsu : ∀ X p, Here P w K mg base N sc fs X → Top X → CtxH X Zf k p → SSs X Zf (b₀ :: suite) ms)
    (hn : N[i]? = some n := by rfl) (hl : isLc sc n = true := by rfl) (hg : isGl sc x = true := by rfl) (hd : okName x = true := by rfl) :
    SS X Z (.Try body [.ExceptHandler (some (.Name x np)) (some n) (b₀ :: suite) pos'] [] [] pos) (s_try i known caught mb ms) := by
  refine ss_try (c := cv) t.st t.fr h.ndX (h.nN hn) (h.lc hl) ⟨h.gl hg, (okD hd), by rw [h.m]; exact hcm⟩ c.calm c.tk (by rw [h.m, h.k]; exact hx) (fun W pn xe tk po => ?_) fun a oe pn hot => ?_
  · exact hb (X.tr pn xe) W ⟨h.p, h.w, h.k, h.m, h.b, h.n, h.s, h.nd, h.kd, h.fn⟩ ⟨t.st, t.fr⟩ ⟨c.room, c.calm, tk, po⟩
  · exact hsu (X.suite a ((a, oe) :: pn)) (a, oe) ⟨h.p, h.w, h.k, h.m, h.b, h.n, h.s, h.nd, h.kd, h.fn⟩ ⟨t.st, t.fr⟩ ⟨⟨c.room.dp, c.room.un⟩, rfl, hot, rfl, takesN0, PassesOwn.never⟩
theorem v_isx1 (h : Here P w K mg base N sc fs X) {p0 : Addr × Obj} (c : CtxH X Z k p0) (i : Nat) {t : Expr} {cv : V} {cu : Value} (hm : mg "isinstance" = none) (ht : PE X t (tC cv)) (hcv : ∀ u, RelV cv u → u = cu)
    (hk : ∀ c ∈ known, ∀ C, mg c = some (.ref C) → ExK K C ∧ PySem.W.kitOne K (.ref C) cu = some (decide (c ∈ yes)))
    (hn : N[i]? = some n := by rfl) (hv : isVis sc n = true := by rfl) (hd : okName n = true := by rfl) (hg : isGl sc "isinstance" = true := by rfl)
    (he : starEach [.Name n p1, t] X.env = (false, eval (.Name n p1) X.env) :: starEach [t] X.env := by rfl) (he2 : starEach [t] X.env = (false, eval t X.env) :: starEach [] X.env := by rfl) (hpl : (backTo pos (starEach [t] X.env)).any (·.1) = false := by rfl) :
    SE X Z (.Call (.Name "isinstance" p) [.Name n p1, t] [] pos) (m_isx i known yes) :=
  se_isx1 c.cold (h.gl hg) (h.mg' hm) (h.nN hn) (h.vis hv) ht hcv (by rw [h.m, h.k]; exact hk) (okD hd) (okC hd) he he2 hpl
theorem v_isxN (h : Here P w K mg base N sc fs X) {p0 : Addr × Obj} (c : CtxH X Z k p0) (i : Nat) {es : List Expr} {kk : Nat} {pt : Pos} {cs : List V} {us : List Value} (hm : mg "isinstance" = none) (ht : PA X es (fun _ H Q => Q cs H)) (hcs : Paired ClsV cs us)
    (hk : ∀ c ∈ known, ∀ C, mg c = some (.ref C) → ExK K C ∧ PySem.W.kitAny K (.ref C) us = some (decide (c ∈ yes))) (hz : cs.length ≤ 1000 := by decide)
    (hn : N[i]? = some n := by rfl) (hv : isVis sc n = true := by rfl) (hd : okName n = true := by rfl) (hg : isGl sc "isinstance" = true := by rfl)
    (he : starEach [.Name n p1, .Tuple es kk pt] X.env = (false, eval (.Name n p1) X.env) :: starEach [.Tuple es kk pt] X.env := by rfl) (he2 : starEach [.Tuple es kk pt] X.env = (false, eval (.Tuple es kk pt) X.env) :: starEach [] X.env := by rfl) (hpl : (backTo pos (starEach [.Tuple es kk pt] X.env)).any (·.1) = false := by rfl) :
    SE X Z (.Call (.Name "isinstance" p) [.Name n p1, .Tuple es kk pt] [] pos) (m_isx i known yes) :=
  se_isxN c.cold (h.gl hg) (h.mg' hm) (h.nN hn) (h.vis hv) ht hcs hz (by rw [h.m, h.k]; exact hk) (okD hd) (okC hd) he he2 hpl
theorem v_cls (h : Here P w K mg base N sc fs X) {C : Addr} (hm : mg x = some (.ref C)) (hg : isGl sc x = true := by rfl) (hd : okName x = true := by rfl) : PE X (.Name x pos) (tC (.ref C)) := pe_glob (v := .ref C) (h.gl hg) (h.mg' hm) rfl (okD hd)
theorem v_xf (h : Here P w K mg base N sc fs X) {p0 : Addr × Obj} (c : CtxH X Z k p0) (i : Nat) (hx : ∀ c ∈ known, ∀ C, mg c = some (.ref C) → XfC K C ∧ PySem.W.findIn K (.ref C) f = some none)
    (hn : N[i]? = some n := by rfl) (hv : isVis sc n = true := by rfl) (hd : okName n = true := by rfl)
    (hb : attributeBase (.Name n p1) f X.env (eval (.Name n p1) X.env) = eval (.Name n p1) X.env := by rfl) : SE X Z (.Attribute (.Name n p1) f pos) (m_xf i f known) :=
  se_xf c.cold (h.nN hn) (h.vis hv) (by rw [h.m, h.k]; exact hx) (okD hd) (okC hd) hb
end
end
end Ev

set_option Elab.async false
set_option linter.all false
set_option maxRecDepth 100000
set_option maxHeartbeats 2000000
/-! Ev13: the head's facts, own error classes. -/
namespace Ev
open PySem PySem.Spec PyProof.Rows L2
/-! ### the hook -/
def asX (g : Addr → Option Obj) : Nat → List Addr
  | 0 => [mainGlobals, cStatics]
  | n + 1 => He.growD g (asX g n)
abbrev Ck := PySem.W.Frag → Bool
abbrev AlX : Type := Bool × He.AlD
def obsX (fa : List He.Fa) (fn : List He.DefD) (ck : List Ck) (K : PySem.W.Frag) : AlX := (ck.all fun c => c K, He.obsD fa fn K)
def valX (fn : List He.DefD) : AlX := (true, He.valD fn)
def SaysX (fa : List He.Fa) (fn : List He.DefD) (ck : List Ck) (K : PySem.W.Frag) : Prop := obsX fa fn ck K = valX fn
def obsXG (n : Nat) (fa : List He.Fa) (fn : List He.DefD) (ck : List Ck) (g : Addr → Option Obj) : AlX := obsX fa fn ck (He.frG g (asX g n))
def hookX (n : Nat) (fa : List He.Fa) (fn : List He.DefD) (ck : List Ck) : PySem.W.Hook where
  α := AlX
  obs := fun s => obsXG n fa fn ck s.heap.get?
  val := fun _ => valX fn
  says := fun _ h => ∃ K : PySem.W.Frag, K.In h ∧ SaysX fa fn ck K
  of := fun _ _ e => ⟨_, He.frG_in, e⟩
  keeps := fun _ _ _ ⟨K, hK, c⟩ k => ⟨K, PySem.W.Frag.In.keeps hK k, c⟩
theorem obsXG_eq {n : Nat} {fa : List He.Fa} {fn : List He.DefD} {ck : List Ck} {g : Addr → Option Obj} {s : Shared} (h : ∀ a, g a = s.heap.get? a) : obsXG n fa fn ck g = (hookX n fa fn ck).obs s := by
  have e : g = s.heap.get? := funext h
  rw [e] <;> rfl
section
variable {fa : List He.Fa} {fn : List He.DefD} {ck : List Ck} {K : PySem.W.Frag}
theorem SaysX.d (c : SaysX fa fn ck K) : He.SaysD fa fn K := congrArg (fun z : AlX => z.2) c
theorem SaysX.chk (c : SaysX fa fn ck K) (i : Nat) {f : Ck} (h : ck[i]? = some f := by rfl) : f K = true :=
  List.all_eq_true.mp (show (ck.all fun c => c K) = true from congrArg (fun z : AlX => z.1) c) f (List.mem_of_getElem? h)
theorem SaysX.glo {h : Heap} {mg : Str → Option Value} (c : SaysX fa fn ck K) (X : K.In h) (G : h.Ns mainGlobals mg) (i : Nat) {x : Str} (e : fa[i]? = some (.glo x) := by rfl) : mg x = some (.ref (He.ga K x)) := He.glo_ok X G (c.d.fact i e)
theorem SaysX.free {h : Heap} {mg : Str → Option Value} (c : SaysX fa fn ck K) (X : K.In h) (G : h.Ns mainGlobals mg) (i : Nat) {x : Str} (e : fa[i]? = some (.free x) := by rfl) : mg x = none := He.free_ok X G (c.d.fact i e)
theorem SaysX.int {h : Heap} {mg : Str → Option Value} (c : SaysX fa fn ck K) (X : K.In h) (G : h.Ns mainGlobals mg) (i : Nat) {x : Str} {z : Int} (e : fa[i]? = some (.int x z) := by rfl) : ∃ t, mg x = some (.int z t) := He.int_ok X G (c.d.fact i e)
theorem SaysX.str {h : Heap} {mg : Str → Option Value} (c : SaysX fa fn ck K) (X : K.In h) (G : h.Ns mainGlobals mg) (i : Nat) {x z : Str} (e : fa[i]? = some (.str x z) := by rfl) : ∃ t, mg x = some (.str z t) := He.str_ok X G (c.d.fact i e)
end
/-! ### defs -/
section
variable {K : PySem.W.Frag} {mg : Str → Option Value} {x qual : Str} {st : Stmt} {f : Addr} {fd : FuncData} {ps : List Str}
theorem fun_of (F : FunD K x qual (defArgs st) (defBody st) (defScope st) [] [] f fd) : Fun K x qual st f fd := by
  obtain ⟨oc, od, dV, kV, doc, pm, an, cdv, ct, osl, rfl, lk, hcd, hD, _⟩ := F.ex
  rcases hD with ⟨_, rfl⟩ | ⟨e, _⟩
  · exact ⟨⟨oc, od, kV, doc, pm, an, cdv, ct, osl, rfl, lk, hcd⟩, F.kp⟩
  · exact absurd rfl e
theorem fnS_of (g : mg x = some (.ref f)) (F : FunD K x x (defArgs st) (defBody st) (defScope st) [] [] f fd)
    (h : ∀ (kV doc pm : Value) (an : Option Addr) (cdv ct : Value) (us : List Value), us.length = ps.length → bindArgs (PySem.W.fnOf x x (defArgs st) (defBody st) (defScope st) .none kV doc pm an cdv ct) ⟨us, []⟩ = pure (ps.zip us)) : FnS K mg x st ps :=
  ⟨f, fd, g, fun_of F, FunD.bindsN F h⟩
end
def defD (x : Str) (st : Stmt) : He.DefD := ⟨(x, none), x, x, defArgs st, defBody st, defScope st, [], []⟩
def metD (c m q : Str) (st : Stmt) : He.DefD := ⟨(c, some m), m, q, defArgs st, defBody st, defScope st, [], []⟩
/-! ### own errors -/
def oexB (K : PySem.W.Frag) (C : Addr) : Bool := match K.lookup C with
  | some ⟨.type "type", _, .cls cd, sl⟩ => (match cd.mro, sl.toList with
    | .ref C' :: bm, [_, _, _, _, some (.builtin n), _] => C' == C && n == "ValueError.__new__" && !cd.hasDel && cd.hasDict && PySem.HandSPX.refsVE bm
    | _, _ => false)
  | _ => false
theorem oexB_ok {K : PySem.W.Frag} {C : Addr} (q : oexB K C = true) : ∃ nm q N bs bm sn sub ab col dd k0 k1 k2 k3 k5, K.lookup C = some (excClassObj nm q C N bs bm true sn sub ab col dd k0 k1 k2 k3 k5 "ValueError.__new__") ∧ PySem.HandSPX.refsVE bm = true := by
  unfold oexB at q
  split at q
  · rename_i dd cd sl ho
    split at q
    · rename_i C' bm k0 k1 k2 k3 n k5 hm hs
      simp only [Bool.and_eq_true, beq_iff_eq, Bool.not_eq_true'] at q
      obtain ⟨⟨⟨⟨rfl, rfl⟩, hdel⟩, hdi⟩, ht⟩ := q
      obtain ⟨nm, bs, mro, ns, qn, hd, sn, sub, ab, col, del⟩ := cd
      dsimp only at hm hdel hdi
      subst hm hdel hdi
      have hsl : sl = #[k0, k1, k2, k3, some (.builtin "ValueError.__new__"), k5] := by
        obtain ⟨l⟩ := sl
        simp only at hs
        rw [hs]
      subst hsl
      exact ⟨nm, qn, ns, bs, bm, sn, sub, ab, col, dd, k0, k1, k2, k3, k5, ho, ht⟩
    · cases q
  · cases q
def eqV (a b : Option (Option Value)) : Bool := decide (a = b)
def errB (c : Str) (fs : List Str) (K : PySem.W.Frag) : Bool :=
  oexB K (He.ga K c) && (eqV (PySem.W.findIn K (.ref (He.ga K c)) "__setattr__") (some (some (.builtin "object.__setattr__"))) && (decide (PySem.W.typeIn K (.ref (He.ga K c)) = some (.type "type")) && (PySem.W.keepIn K (.ref (He.ga K c)) &&
  (xfB K (He.ga K c) && ((fs.all fun f => eqV (PySem.W.findIn K (.ref (He.ga K c)) f) (some none)) &&
  (eqV (PySem.W.findIn K (.ref (He.ga K c)) "__init__") (some (some (.ref (He.ma K (He.ga K c) "__init__")))) && (decide (PySem.W.typeIn K (.ref (He.ma K (He.ga K c) "__init__")) = some (.type "function")) &&
  ((PySem.W.clsIn K (He.ga K c)).isSome && (eqV (PySem.W.findIn K (.ref (He.ga K c)) "__class__") (some (some (.builtin "object.__class__"))) && (eqV (PySem.W.specialIn K (.builtin "object.__class__") "__get__") (some (some (.builtin "getset_descriptor.__get__"))) &&
  (decide (PySem.W.takesIn K (.builtin "object.__class__") = some true) && decide (PySem.W.mroIn K (He.ga K c) (.type "object") = some true))))))))))))
def isCk (c : Str) (d : PySem.W.Frag → Value) (b : Bool) (K : PySem.W.Frag) : Bool := decide (PySem.W.kitOne K (.ref (He.ga K c)) (d K) = some b)
def exCk (c d : Str) (b : Bool) (K : PySem.W.Frag) : Bool := decide (PySem.W.exmOne K (.ref (He.ga K c)) (.ref (He.ga K d)) = some b)
/-- of each class: taken by base, not by another, by ValueError -/
def tabCk (cs : List Str) (base : Str) (K : PySem.W.Frag) : Bool :=
  (cs.all fun c => exCk c base true K && (isCk c (fun _ => .type "ValueError") true K && isCk c (fun K => .ref (He.ga K base)) true K)) && (cs.all fun c => cs.all fun d => isCk c (fun K => .ref (He.ga K d)) (decide (c = d)) K)
def ckBase (K : PySem.W.Frag) : Bool :=
  eqV (PySem.W.specialIn K (.ref (He.ga K "NoteError")) "__getattribute__") (some (some (.builtin "type.__getattribute__"))) && (PySem.W.readsIn K (He.ga K "NoteError") (.type "type") && (match PySem.W.findCls K (.ref (He.ga K "NoteError")) (.type "type") "__init__" with
  | some (.val (.builtin i)) => i == "ValueError.__init__"
  | _ => false))
theorem ckBase_ok {K : PySem.W.Frag} {mg : Str → Option Value} (g : mg "NoteError" = some (.ref (He.ga K "NoteError"))) (h : ckBase K = true) : BaseErr K mg (He.ga K "NoteError") := by
  obtain ⟨h1, h⟩ := He.ba h
  obtain ⟨h2, h3⟩ := He.ba h
  refine ⟨g, of_decide_eq_true h1, h2, ?_⟩
  split at h3
  · rename_i i e
    rw [beq_iff_eq] at h3
    subst h3
    exact e
  · cases h3
section
variable {P : Program} {w : World} {K : PySem.W.Frag} {mg : Str → Option Value} {base : Heap} {c : Str} {fs ps : List Str} {fd : FuncData}
theorem errX_of (g : mg c = some (.ref (He.ga K c))) (h : errB c fs K = true) (F : OexC K (He.ga K c) → (∀ f ∈ fs, PySem.W.findIn K (.ref (He.ga K c)) f = some none) → FnOk P w K mg base CX0 1 (He.ma K (He.ga K c) "__init__") fd ps (spI (He.ga K c) fs)) (b : Binds K fd ps []) (nd : fs.Nodup := by decide) (h2 : fs.length ≤ 2 := by decide) :
    ErrX P w K mg base c fs (He.ga K c) := by
  obtain ⟨h1, h⟩ := He.ba h
  obtain ⟨h3, h⟩ := He.ba h
  obtain ⟨h4, h⟩ := He.ba h
  obtain ⟨h5, h⟩ := He.ba h
  obtain ⟨h6, h⟩ := He.ba h
  obtain ⟨h7, h⟩ := He.ba h
  obtain ⟨h8, h⟩ := He.ba h
  obtain ⟨h9, h⟩ := He.ba h
  obtain ⟨h10, h⟩ := He.ba h
  obtain ⟨h11, h⟩ := He.ba h
  obtain ⟨h12, h⟩ := He.ba h
  obtain ⟨h13, h14⟩ := He.ba h
  have xf := xfB_ok h6
  have ox : OexC K (He.ga K c) := ⟨oexB_ok h1, of_decide_eq_true h3, xf.exC, of_decide_eq_true h4, h5⟩
  have hn : ∀ f ∈ fs, PySem.W.findIn K (.ref (He.ga K c)) f = some none := fun f hf => of_decide_eq_true (List.all_eq_true.mp h7 f hf)
  exact ⟨⟨g, ox, nd, hn, _, fd, ps, of_decide_eq_true h8, of_decide_eq_true h9, F ox hn, b, h2⟩, ⟨h10, xf.ga, xf.gg, xf.exC, of_decide_eq_true h11, of_decide_eq_true h12, of_decide_eq_true h13, of_decide_eq_true h14⟩, xf⟩
end
/-- what a body asks of its errors' classes -/
structure Errs (K : PySem.W.Frag) (mg : Str → Option Value) (cs : List Str) (base : Str) : Prop where
  g : ∀ c ∈ cs, mg c = some (.ref (He.ga K c))
  gb : mg base = some (.ref (He.ga K base))
  x : ∀ c ∈ cs, ExK K (He.ga K c) ∧ XfC K (He.ga K c)
  t : tabCk cs base K = true
section
variable {K : PySem.W.Frag} {mg : Str → Option Value} {cs : List Str} {base : Str}
theorem Errs.adr (E : Errs K mg cs base) {c : Str} (h : c ∈ cs) {C : Addr} (e : mg c = some (.ref C)) : C = He.ga K c := by
  rw [E.g c h] at e
  cases e
  rfl
/-- except base as e: all are caught -/
theorem Errs.ex (E : Errs K mg cs base) : ∀ d ∈ cs, ∀ C, mg d = some (.ref C) → PySem.W.exmOne K (.ref C) (.ref (He.ga K base)) = some (decide (d ∈ cs)) := fun d hd C e => by
  rw [E.adr hd e, decide_eq_true hd]
  have := (He.ba (List.all_eq_true.mp (He.ba E.t).1 d hd)).1
  exact of_decide_eq_true this
theorem Errs.isV (E : Errs K mg cs base) : ∀ c ∈ cs, ∀ C, mg c = some (.ref C) → ExK K C ∧ PySem.W.kitOne K (.ref C) (.type "ValueError") = some (decide (c ∈ cs)) := fun d hd C e => by
  rw [E.adr hd e, decide_eq_true hd]
  exact ⟨(E.x d hd).1, of_decide_eq_true (He.ba (He.ba (List.all_eq_true.mp (He.ba E.t).1 d hd)).2).1⟩
theorem Errs.is1 (E : Errs K mg cs base) {x : Str} (hx : x ∈ cs) : ∀ c ∈ cs, ∀ C, mg c = some (.ref C) → ExK K C ∧ PySem.W.kitOne K (.ref C) (.ref (He.ga K x)) = some (decide (c ∈ [x])) := fun d hd C e => by
  rw [E.adr hd e]
  have q : PySem.W.kitOne K (.ref (He.ga K d)) (.ref (He.ga K x)) = some (decide (d = x)) := of_decide_eq_true (List.all_eq_true.mp (List.all_eq_true.mp (He.ba E.t).2 d hd) x hx)
  refine ⟨(E.x d hd).1, ?_⟩
  rw [q]
  congr 1
  simp
theorem Errs.xf (E : Errs K mg cs base) {f : Str} {known : List Str} (hk : ∀ c ∈ known, c ∈ cs ∧ PySem.W.findIn K (.ref (He.ga K c)) f = some none) : ∀ c ∈ known, ∀ C, mg c = some (.ref C) → XfC K C ∧ PySem.W.findIn K (.ref C) f = some none := fun d hd C e => by
  rw [E.adr (hk d hd).1 e]
  exact ⟨(E.x d (hk d hd).1).2, (hk d hd).2⟩
end
end Ev

set_option Elab.async false
set_option linter.all false
set_option maxRecDepth 100000
set_option maxHeartbeats 2000000
/-! Ev14: the handled exception as an argument. -/
namespace Ev
open PySem PySem.Spec PyProof.Rows L2
abbrev repX (g : Gd) : RepT (List W) (List V) := fun _ H φ t v => SlReps g H φ t v
instance {g : Gd} : Anti (repX g) := ⟨fun _ _ h => h⟩
abbrev SX (X : Cx) (Z : WX) (es : List Expr) (m : MA) : Prop := PA X es (lift (repX (gd X)) (gd X) Z m)
theorem SlReps.nil {g : Gd} {H : Hp} {φ : List Addr} : SlReps g H φ [] [] := ⟨rfl, fun i w h => by simp at h⟩
theorem SlReps.cons {g : Gd} {H : Hp} {φ : List Addr} {w : W} {v : V} {ws : List W} {vs : List V} (h : SlRep g H φ w v) (r : SlReps g H φ ws vs) : SlReps g H φ (w :: ws) (v :: vs) :=
  ⟨by simp [r.len], fun i w' h' => by
    cases i with
    | zero => simp only [List.getElem?_cons_zero, Option.some.injEq] at h'; subst h'; exact ⟨v, rfl, h⟩
    | succ j => simp only [List.getElem?_cons_succ] at h'; simpa using r.at_ j w' h'⟩
def m_consX (i : Nat) (r : MA) : MA := fun ρ S => match ρ[i]? with
  | some (some (.exn c ns ws)) => (r ρ S).bind fun xs S1 => .ok (.exn c ns ws :: xs) S1
  | _ => .no
section
variable {X : Cx} {Z : WX} {e : Expr} {es : List Expr} {me : ME} {mr : MA} {pos : Pos}
theorem sx_nil : SX X Z [] m_nil := pa_nil.imp fun σ H Q h => by
  obtain ⟨φ, S, ρ, s, e, p⟩ := h
  exact p.now s SlReps.nil
theorem sx_cons (h : SE X Z e me) (hr : SX X Z es mr) (hs : starEach (e :: es) X.env = (false, eval e X.env) :: starEach es X.env := by rfl) : SX X Z (e :: es) (m_cons me mr) := (pa_cons h hr hs).imp fun σ H Q h => by
  obtain ⟨φ, S, ρ, s, e, p⟩ := h
  refine ⟨φ, S, ρ, s, e, (PostG.settle p).mono fun x H1 ⟨w, S1, φ1, e1, s1, r1, p1⟩ => ?_⟩
  refine ⟨φ1, S1, ρ, s1, e.mono s e1, (PostG.bind (rep := repX (gd X)) p1).mono fun xs H2 ⟨ws, S2, φ2, e2, s2, r2, p2⟩ => ?_⟩
  exact p2.now s2 (SlReps.cons (Rep.mono s1 e2 w x r1).sl r2)
theorem sx_exn {i : Nat} {x : Str} {pos : Pos} (hN : X.N[i]? = some x) (hv : Vis X.env.scope x) (hr : SX X Z es mr) (hd : (x == ("__debug__" : Str)) = false) (hcd : (x == ("__classdict__" : Str)) = false)
    (hs : starEach (.Name x pos :: es) X.env = (false, eval (.Name x pos) X.env) :: starEach es X.env := by rfl) : SX X Z (.Name x pos :: es) (m_consX i mr) := (pa_cons (pv i hN hv hd hcd) hr hs).imp fun σ H Q h => by
  obtain ⟨φ, S, ρ, s, e, p⟩ := h
  unfold m_consX at p
  split at p
  · rename_i c ns ws hq
    obtain ⟨v, hv1, hv2⟩ := e.at_ i _ hq
    refine ⟨v, hv1, φ, S, ρ, s, e, (PostG.bind (rep := repX (gd X)) p).mono fun xs H2 ⟨ws, S2, φ2, e2, s2, r2, p2⟩ => ?_⟩
    exact p2.now s2 (SlReps.cons (hv2.mono s e2) r2)
  · exact p.elim
end
section
variable {P : Program} {w : World} {K : PySem.W.Frag} {mg : Str → Option Value} {base : Heap} {N : List Str} {sc : Scope} {fs : Str → Bool} {X : Cx} {Z : WX} {k j : Nat} {x : Str} {ps : List Str} {mf : List W → Store → R T} {e : Expr} {es : List Expr} {m : MA} {p pos : Pos} {p0 : Addr × Obj}
theorem x_exn (h : Here P w K mg base N sc fs X) (i : Nat) {x : Str} {pos : Pos} (hr : SX X Z es m) (hn : N[i]? = some x := by rfl) (hv : isVis sc x = true := by rfl) (hd : okName x = true := by rfl)
    (hs : starEach (.Name x pos :: es) X.env = (false, eval (.Name x pos) X.env) :: starEach es X.env := by rfl) : SX X Z (.Name x pos :: es) (m_consX i m) := sx_exn (h.nN hn) (h.vis hv) hr (okD hd) (okC hd) hs
theorem se_callX {f : Addr} {fd : FuncData} (F : DoesH X.prog X.w X.K X.mg X.base k f fd ps mf) (c : CtxH X Z k p0) (hg : Gl X x) (hm : X.mg x = some (.ref f)) (hk : PySem.W.keepIn X.K (.ref f) = true) (hb : Binds X.K fd ps [])
    (ha : SX X Z (e :: es) m) (hdb : (x == ("__debug__" : Str)) = false := by decide) (he : starEach (e :: es) X.env = (false, eval e X.env) :: starEach es X.env := by rfl) (hpl : (backTo pos (starEach es X.env)).any (·.1) = false := by rfl) :
    SE X Z (.Call (.Name x p) (e :: es) [] pos) (m_call ps.length mf m) := by
  have eg := c.gd
  refine ⟨fun pins s σ H Q I h => ?_⟩
  refine wpAny_Call_Name_kw (ld_glob I hg hm ?_ hdb)
  obtain ⟨φ, S, ρ, s0, e0, p0'⟩ := h
  refine PySem.W.callWith_K (h₀ := X.base) I.ok.mod.kin hk (thn (ha.run pos pins s σ H (fun vs H1 => spOf ⟨X.K, X.mg, some p0⟩ ps.length mf vs H1 Q (WE Z σ)) I ⟨φ, S, ρ, s0, e0, (PostG.bind (rep := repX (Ev.gd X)) p0').mono fun vs H1 ⟨ws, S1, φ1, e1, s1, r1, p1⟩ => ?_⟩) fun us s1 ⟨vs, H1, I1, r, q⟩ => ⟨I1.kIn, ?_⟩) he hpl
  · split at p1
    · rename_i hl
      refine ⟨by rw [← r1.len]; exact hl, φ1, S1, ws, by rw [← eg]; exact s1, by rw [← eg]; exact r1, ?_⟩
      rw [← eg]
      generalize mf ws S1 = r at p1 ⊢
      cases r with
      | ok t S2 => exact p1
      | exc c ns xs S2 => exact p1
      | no => exact p1
    · exact p1.elim
  · have hp := List.mem_of_head? c.head
    have hl : us.length = ps.length := by rw [← r.length]; exact F.len _ _ _ _ _ q
    have b := hb s1 us I1.kIn (by rw [List.append_nil]; exact hl)
    rw [List.append_nil] at b
    have P1 := I1.pin p0 (List.mem_append_left _ hp)
    have hpin : L2H.PinOk X.stack H1 s1 p0 := ⟨P1.1, P1.2.1, fun hm => (List.mem_cons.mp (I1.stkSub p0.1 hm)).elim P1.2.2.1 P1.2.2.2.1, P1.2.2.2.2⟩
    refine wpAny_call (codeAny_mono (F.run X.A X.stack s1 H1 ⟨us, []⟩ us vs Q (WE Z σ) p0 c.room c.hot hpin I1.env0 b r q) fun r s' hq => ?_)
    cases r with
    | error e => exact L2N.passAt c.tk σ pins H1 s1 e s' I1 hq
    | ok fl =>
      cases fl with
      | ret u => exact I1.after hq
      | next => exact False.elim hq
      | brk => exact False.elim hq
      | cont => exact False.elim hq
theorem v_callX (h : Here P w K mg base N sc fs X) (c : CtxH X Z k p0) (D : DoesHN P w K mg base j x ps mf) (hj : j ≤ k) (ha : SX X Z (e :: es) m) (hg : isGl sc x = true := by rfl) (hd : okName x = true := by rfl)
    (he : starEach (e :: es) X.env = (false, eval e X.env) :: starEach es X.env := by rfl) (hpl : (backTo pos (starEach es X.env)).any (·.1) = false := by rfl) : SE X Z (.Call (.Name x p) (e :: es) [] pos) (m_call ps.length mf m) := by
  obtain ⟨f, fd, g, kp, b, F⟩ := D
  obtain ⟨e1, e2, e3, e4, e5, e6, e7, e8, e9, e10⟩ := id h
  subst e1 e2 e3 e4 e5
  exact se_callX F (c.mono hj) (h.gl hg) g kp b ha (okD hd) he hpl
end
/-! ### builtin names -/
theorem bt_int : bootBuiltins "int" = some (.type "int") := by decide +kernel
theorem bt_bool : bootBuiltins "bool" = some (.type "bool") := by decide +kernel
theorem bt_str : bootBuiltins "str" = some (.type "str") := by decide +kernel
theorem bt_list : bootBuiltins "list" = some (.type "list") := by decide +kernel
theorem bt_tuple : bootBuiltins "tuple" = some (.type "tuple") := by decide +kernel
theorem bt_dict : bootBuiltins "dict" = some (.type "dict") := by decide +kernel
theorem bt_ValueError : bootBuiltins "ValueError" = some (.type "ValueError") := by decide +kernel
theorem hcv_ref {C : Addr} : ∀ u, RelV (.ref C) u → u = .ref C := fun _ h => h
theorem hcv_ty {n : String} : ∀ u, RelV (.ty n) u → u = .type n := fun _ h => h
end Ev

set_option Elab.async false
set_option linter.all false
set_option maxRecDepth 100000
set_option maxHeartbeats 2000000
/-! Ev15: what the combinators compute (no program in sight). -/
namespace Ev
open PySem PySem.Spec PyProof.Rows L2
theorem open_short {n : Nat} {S' : Store} {t : T} (h : S'.length ≤ n) : t.open n S' = t := by
  cases t with
  | l ws => rfl
  | w x =>
    cases x with
    | loc m =>
      show (if n ≤ m then (match S'[m]? with | some (.lst ws) => T.l ws | _ => .w (.loc m)) else .w (.loc m)) = _
      split
      · rename_i hm
        have e : S'[m]? = none := List.getElem?_eq_none (by omega)
        rw [e]
      · rfl
    | _ => rfl
theorem gc_same {S S' : Store} {t : T} (h : S'.length = S.length) : gc S t S' = .ok t S' := by
  have e : t.open S.length S' = t := open_short (by omega)
  unfold gc
  rw [e]
  split
  · rw [← h, List.take_length]
  · rfl
theorem gcx_same {S S' : Store} {c : Str} {ns : List Str} {ws : List W} (h : S'.length = S.length) : gcx S c ns ws S' = .exc c ns ws S' := by
  unfold gcx
  split
  · rw [← h, List.take_length]
  · rfl
/-- what is neither a list nor new is handed back as it is -/
theorem gc_kept {S S' : Store} {t : T} (k : Kept S S') (ho : t.open S.length S' = t) (h : t.lb S.length = true) : gc S t S' = .ok t (S'.take S.length) := by
  unfold gc
  rw [ho, if_pos ⟨k, h⟩]
theorem gc_or {S S' : Store} {t : T} : gc S t S' = .ok t S' ∨ (gc S t S' = .ok (t.open S.length S') (S'.take S.length) ∧ Kept S S' ∧ (t.open S.length S').lb S.length = true) := by
  unfold gc
  split
  · rename_i h; exact .inr ⟨rfl, h⟩
  · exact .inl rfl
@[simp] theorem wMul_int {i j : Int} {S : Store} (h : i.natAbs.log2 + j.natAbs.log2 < 1000000) : wMul (.w (.int i)) (.w (.int j)) S = .ok (.w (.int (i * j))) S := by
  unfold wMul
  exact if_pos (show CMulW i j from h)
@[simp] theorem wDiv_int {i j : Int} {S : Store} (h : 0 < j) (h2 : j.natAbs.log2 < 9000) : wDiv (.w (.int i)) (.w (.int j)) S = .ok (.w (.int (i / j))) S := by
  show (if _ then _ else _) = _
  rw [if_pos ⟨h, h2⟩]
@[simp] theorem wMod_int {i j : Int} {S : Store} (h : 0 < j) : wMod (.w (.int i)) (.w (.int j)) S = .ok (.w (.int (i % j))) S := by
  show (if _ then _ else _) = _
  rw [if_pos h]
@[simp] theorem wAdd_int {i j : Int} {S : Store} : wAdd (.w (.int i)) (.w (.int j)) S = .ok (.w (.int (i + j))) S := rfl
@[simp] theorem wSub_int {i j : Int} {S : Store} : wSub (.w (.int i)) (.w (.int j)) S = .ok (.w (.int (i - j))) S := rfl
@[simp] theorem wLt_int {i j : Int} {S : Store} : wLt (.w (.int i)) (.w (.int j)) S = .ok (.w (.bl (decide (i < j)))) S := rfl
@[simp] theorem wLe_int {i j : Int} {S : Store} : wLe (.w (.int i)) (.w (.int j)) S = .ok (.w (.bl (decide (i ≤ j)))) S := rfl
@[simp] theorem wGt_int {i j : Int} {S : Store} : wGt (.w (.int i)) (.w (.int j)) S = .ok (.w (.bl (decide (j < i)))) S := rfl
@[simp] theorem wGe_int {i j : Int} {S : Store} : wGe (.w (.int i)) (.w (.int j)) S = .ok (.w (.bl (decide (j ≤ i)))) S := rfl
@[simp] theorem wIsN_non {t : T} {S : Store} : wIsN t (.w .non) S = .ok (.w (.bl t.isNon)) S := rfl
@[simp] theorem wNotN_non {t : T} {S : Store} : wNotN t (.w .non) S = .ok (.w (.bl (!t.isNon))) S := rfl
/-- the i-th of a list, a tuple -/
theorem wIx_of {t : T} {i : Int} {S : Store} {ws : List W} {w : W} (hs : ∀ z, t ≠ .w (.str z)) (h : contOf t S = some ws) (a : atI ws i = some w) : wIx t (.w (.int i)) S = .ok (.w w) S := by
  unfold wIx
  cases t with
  | l us => simp only [h, a]
  | w x =>
    cases x with
    | str z => exact absurd rfl (hs z)
    | _ => simp only [h, a]
@[simp] theorem needB_bl {b : Bool} {S : Store} : needB (.ok (.w (.bl b)) S) = .ok b S := rfl
theorem log2_lt {i : Int} {n : Nat} (h : i.natAbs < 2 ^ n) (hn : 0 < n := by decide) : i.natAbs.log2 < n := by
  by_cases e : i.natAbs = 0
  · rw [e]; exact hn
  · exact (Nat.log2_lt e).mpr h
@[simp] theorem atI_zero {α : Type} {a : α} {r : List α} : atI (a :: r) (0 : Int) = some a := by
  unfold atI ixN
  rw [if_pos (by decide), if_pos (by simp)]
  rfl
@[simp] theorem atI_one {α : Type} {a b : α} {r : List α} : atI (a :: b :: r) (1 : Int) = some b := by
  unfold atI ixN
  rw [if_pos (by decide), if_pos (by simp; omega)]
  rfl
@[simp] theorem atI_two {α : Type} {a b c : α} {r : List α} : atI (a :: b :: c :: r) (2 : Int) = some c := by
  unfold atI ixN
  rw [if_pos (by decide), if_pos (by simp; omega)]
  rfl
theorem atI_nn {α : Type} {ws : List α} {i : Nat} {w : α} (h : ws[i]? = some w) : atI ws (i : Int) = some w := by
  have hi := (List.getElem?_eq_some_iff.mp h).1
  unfold atI ixN
  rw [if_pos (by omega), if_pos (by omega)]
  simpa using h

/-! ### equality of plain values -/
theorem wEq_dat {t u : T} {S : Store} {d e : PyData} (h1 : t.dat S = some d) (h2 : u.dat S = some e) (h3 : SeqAt.shaped d = true) (h4 : SeqAt.shaped e = true) : wEq t u S = .ok (.w (.bl (PyData.eqv d e))) S := by
  unfold wEq
  simp only [h1, h2]
  rw [if_pos ⟨h3, h4⟩]
theorem wNe_dat {t u : T} {S : Store} {d e : PyData} (h1 : t.dat S = some d) (h2 : u.dat S = some e) (h3 : SeqAt.shaped d = true) (h4 : SeqAt.shaped e = true) : wNe t u S = .ok (.w (.bl (!PyData.eqv d e))) S := by
  unfold wNe
  simp only [h1, h2]
  rw [if_pos ⟨h3, h4⟩]
theorem shaped_int (i : Int) : SeqAt.shaped (.int i) = true := rfl
theorem shaped_bool (i : Bool) : SeqAt.shaped (.bool i) = true := rfl
theorem shaped_none : SeqAt.shaped .none = true := rfl
theorem shaped_str {x : Str} (h : PyData.canLay0 (.str x) = true) : SeqAt.shaped (.str x) = true := by
  unfold SeqAt.shaped
  rw [h]
  rfl
@[simp] theorem wEq_int {i j : Int} {S : Store} : wEq (.w (.int i)) (.w (.int j)) S = .ok (.w (.bl (i == j))) S := wEq_dat (d := .int i) (e := .int j) rfl rfl rfl rfl
@[simp] theorem wNe_int {i j : Int} {S : Store} : wNe (.w (.int i)) (.w (.int j)) S = .ok (.w (.bl (!(i == j)))) S := wNe_dat (d := .int i) (e := .int j) rfl rfl rfl rfl
@[simp] theorem wEq_bl {i j : Bool} {S : Store} : wEq (.w (.bl i)) (.w (.bl j)) S = .ok (.w (.bl (i == j))) S := wEq_dat (d := .bool i) (e := .bool j) rfl rfl rfl rfl
theorem wEq_str {i j : Str} {S : Store} (hi : PyData.canLay0 (.str i) = true) (hj : PyData.canLay0 (.str j) = true) : wEq (.w (.str i)) (.w (.str j)) S = .ok (.w (.bl (i == j))) S := wEq_dat (d := .str i) (e := .str j) rfl rfl (shaped_str hi) (shaped_str hj)
theorem wNe_str {i j : Str} {S : Store} (hi : PyData.canLay0 (.str i) = true) (hj : PyData.canLay0 (.str j) = true) : wNe (.w (.str i)) (.w (.str j)) S = .ok (.w (.bl (!(i == j)))) S := wNe_dat (d := .str i) (e := .str j) rfl rfl (shaped_str hi) (shaped_str hj)
/-! ### comprehensions -/
section
variable {g : MG} {tt : MT} {me : ME} {chk : Store → Prop} {ρ : Rho}
/-- the items one by one, an invariant of what is told so far -/
theorem lcL_inv {i : Nat} (P : List W → List W → Store → Prop) (hc : ∀ rest acc S, P rest acc S → chk S)
    (step : ∀ w rest acc S, P (w :: rest) acc S → ∃ t S1 x S2, me (ρ.set i (some w)) S = .ok t S1 ∧ settle t S1 = .ok x S2 ∧ P rest (acc ++ [x]) S2) :
    ∀ ws acc S, P ws acc S → ∃ xs S', lcL (g_name i) t_yes me chk ρ ws S = .ok xs S' ∧ P [] (acc ++ xs) S'
  | [], acc, S, h => ⟨[], S, by unfold lcL; rw [if_pos (hc _ _ _ h)], by simpa using h⟩
  | w :: rest, acc, S, h => by
    obtain ⟨t, S1, x, S2, e1, e2, h2⟩ := step w rest acc S h
    obtain ⟨xs, S', e3, h3⟩ := lcL_inv P hc step rest (acc ++ [x]) S2 h2
    refine ⟨x :: xs, S', ?_, by simpa using h3⟩
    unfold lcL
    rw [if_pos (hc _ _ _ h)]
    simp only [g_name, R.calm_ok, R.ok_bind, t_yes, if_true, e1, e2, e3]
/-- a body that only tells a value -/
theorem lcL_map {i : Nat} {S : Store} (f : W → W) (hc : chk S) : ∀ ws : List W, (∀ w ∈ ws, me (ρ.set i (some w)) S = .ok (.w (f w)) S) → lcL (g_name i) t_yes me chk ρ ws S = .ok (ws.map f) S
  | [], _ => by unfold lcL; rw [if_pos hc]; rfl
  | w :: rest, h => by
    unfold lcL
    rw [if_pos hc]
    simp only [g_name, R.calm_ok, R.ok_bind, t_yes, if_true, h w (by simp), settle_w, lcL_map f hc rest (fun w' hw => h w' (by simp [hw])), List.map_cons]
/-- .. with any target and a test -/
theorem lcL_fil {S : Store} (ρs : W → Rho) (p : W → Bool) (f : W → W) (hc : chk S) : ∀ ws : List W, (∀ w ∈ ws, g w ρ S = .ok (ρs w) S ∧ tt (ρs w) S = .ok (p w) S ∧ (p w = true → me (ρs w) S = .ok (.w (f w)) S)) → lcL g tt me chk ρ ws S = .ok ((ws.filter p).map f) S
  | [], _ => by unfold lcL; rw [if_pos hc]; rfl
  | w :: rest, h => by
    obtain ⟨h1, h2, h3⟩ := h w (by simp)
    have ih := lcL_fil ρs p f hc rest (fun w' hw => h w' (by simp [hw]))
    unfold lcL
    rw [if_pos hc]
    simp only [h1, R.calm_ok, R.ok_bind, h2]
    cases e : p w with
    | true => simp only [if_true, h3 e, R.calm_ok, R.ok_bind, settle_w, ih, List.filter_cons, e, List.map_cons]
    | false => simp only [Bool.false_eq_true, if_false, ih, List.filter_cons, e]
end
/-! ### loops -/
section
variable {g : MG} {clr : List Nat} {body : MS} {chk : Store → Prop}
/-- every turn goes on -/
theorem forL_inv (P : List W → Rho → Store → Prop) (hc : ∀ rest ρ S, P rest ρ S → chk S)
    (step : ∀ w rest ρ S, P (w :: rest) ρ S → ∃ ρ1 S1 ρ2 S2, g w (wipeR clr ρ) S = .ok ρ1 S1 ∧ (body ρ1 S1 = .next ρ2 S2 ∨ body ρ1 S1 = .cnt ρ2 S2) ∧ P rest ρ2 S2) :
    ∀ ws ρ S, P ws ρ S → ∃ ρ' S', forL g clr body chk ws ρ S = .next (wipeR clr ρ') S' ∧ P [] ρ' S'
  | [], ρ, S, h => ⟨ρ, S, by unfold forL; rw [if_pos (hc _ _ _ h)], h⟩
  | w :: rest, ρ, S, h => by
    obtain ⟨ρ1, S1, ρ2, S2, e1, e2, h2⟩ := step w rest ρ S h
    obtain ⟨ρ', S', e3, h3⟩ := forL_inv P hc step rest ρ2 S2 h2
    refine ⟨ρ', S', ?_, h3⟩
    unfold forL
    rw [if_pos (hc _ _ _ h)]
    simp only [e1, R.calm_ok, R.ok_thenS]
    rcases e2 with e2 | e2
    · rw [e2, RS.again_next, e3]
    · rw [e2, RS.again_cnt, e3]
end
theorem i_seq_ok {m : ME} {ρ : Rho} {S S1 : Store} {t : T} {it : Items} (h : m ρ S = .ok t S1) (hi : itemsOf t S1 = some it) : i_seq m ρ S = .ok it S1 := by
  unfold i_seq
  rw [h, R.ok_bind]
  simp only [hi]
theorem lbs_mem {n : Nat} {w : W} : ∀ {ws : List W}, W.lbs n ws = true → w ∈ ws → w.lb n = true
  | x :: r, e, hw => by
    simp only [W.lbs, Bool.and_eq_true] at e
    rcases List.mem_cons.mp hw with rfl | hw
    · exact e.1
    · exact lbs_mem e.2 hw
/-! ### slots -/
def W.isX : W → Bool
  | .exn _ _ _ => true
  | _ => false
@[simp] theorem isX_non : W.isX .non = false := by unfold W.isX; rfl
@[simp] theorem isX_bl {b} : W.isX (.bl b) = false := by unfold W.isX; rfl
@[simp] theorem isX_int {b} : W.isX (.int b) = false := by unfold W.isX; rfl
@[simp] theorem isX_str {b} : W.isX (.str b) = false := by unfold W.isX; rfl
@[simp] theorem isX_tup {b} : W.isX (.tup b) = false := by unfold W.isX; rfl
@[simp] theorem isX_loc {b} : W.isX (.loc b) = false := by unfold W.isX; rfl
@[simp] theorem isX_rol {b} : W.isX (.rol b) = false := by unfold W.isX; rfl
theorem mv_of {i : Nat} {ρ : Rho} {S : Store} {w : W} (h : ρ[i]? = some (some w)) (hw : w.isX = false) : m_var i ρ S = .ok (.w w) S := by
  unfold m_var
  rw [h]
  cases w <;> first | rfl | cases hw
@[simp] theorem mv0 {w : W} {r : Rho} {S : Store} (hw : w.isX = false) : m_var 0 (some w :: r) S = .ok (.w w) S := mv_of rfl hw
@[simp] theorem mv1 {w : W} {a0 : Option W} {r : Rho} {S : Store} (hw : w.isX = false) : m_var 1 (a0 :: some w :: r) S = .ok (.w w) S := mv_of rfl hw
@[simp] theorem mv2 {w : W} {a0 a1 : Option W} {r : Rho} {S : Store} (hw : w.isX = false) : m_var 2 (a0 :: a1 :: some w :: r) S = .ok (.w w) S := mv_of rfl hw
@[simp] theorem mv3 {w : W} {a0 a1 a2 : Option W} {r : Rho} {S : Store} (hw : w.isX = false) : m_var 3 (a0 :: a1 :: a2 :: some w :: r) S = .ok (.w w) S := mv_of rfl hw
@[simp] theorem mv4 {w : W} {a0 a1 a2 a3 : Option W} {r : Rho} {S : Store} (hw : w.isX = false) : m_var 4 (a0 :: a1 :: a2 :: a3 :: some w :: r) S = .ok (.w w) S := mv_of rfl hw
@[simp] theorem mv5 {w : W} {a0 a1 a2 a3 a4 : Option W} {r : Rho} {S : Store} (hw : w.isX = false) : m_var 5 (a0 :: a1 :: a2 :: a3 :: a4 :: some w :: r) S = .ok (.w w) S := mv_of rfl hw
@[simp] theorem mv6 {w : W} {a0 a1 a2 a3 a4 a5 : Option W} {r : Rho} {S : Store} (hw : w.isX = false) : m_var 6 (a0 :: a1 :: a2 :: a3 :: a4 :: a5 :: some w :: r) S = .ok (.w w) S := mv_of rfl hw
@[simp] theorem mv7 {w : W} {a0 a1 a2 a3 a4 a5 a6 : Option W} {r : Rho} {S : Store} (hw : w.isX = false) : m_var 7 (a0 :: a1 :: a2 :: a3 :: a4 :: a5 :: a6 :: some w :: r) S = .ok (.w w) S := mv_of rfl hw
@[simp] theorem mv8 {w : W} {a0 a1 a2 a3 a4 a5 a6 a7 : Option W} {r : Rho} {S : Store} (hw : w.isX = false) : m_var 8 (a0 :: a1 :: a2 :: a3 :: a4 :: a5 :: a6 :: a7 :: some w :: r) S = .ok (.w w) S := mv_of rfl hw
@[simp] theorem mv9 {w : W} {a0 a1 a2 a3 a4 a5 a6 a7 a8 : Option W} {r : Rho} {S : Store} (hw : w.isX = false) : m_var 9 (a0 :: a1 :: a2 :: a3 :: a4 :: a5 :: a6 :: a7 :: a8 :: some w :: r) S = .ok (.w w) S := mv_of rfl hw
@[simp] theorem mv10 {w : W} {a0 a1 a2 a3 a4 a5 a6 a7 a8 a9 : Option W} {r : Rho} {S : Store} (hw : w.isX = false) : m_var 10 (a0 :: a1 :: a2 :: a3 :: a4 :: a5 :: a6 :: a7 :: a8 :: a9 :: some w :: r) S = .ok (.w w) S := mv_of rfl hw
@[simp] theorem mv11 {w : W} {a0 a1 a2 a3 a4 a5 a6 a7 a8 a9 a10 : Option W} {r : Rho} {S : Store} (hw : w.isX = false) : m_var 11 (a0 :: a1 :: a2 :: a3 :: a4 :: a5 :: a6 :: a7 :: a8 :: a9 :: a10 :: some w :: r) S = .ok (.w w) S := mv_of rfl hw
@[simp] theorem mv12 {w : W} {a0 a1 a2 a3 a4 a5 a6 a7 a8 a9 a10 a11 : Option W} {r : Rho} {S : Store} (hw : w.isX = false) : m_var 12 (a0 :: a1 :: a2 :: a3 :: a4 :: a5 :: a6 :: a7 :: a8 :: a9 :: a10 :: a11 :: some w :: r) S = .ok (.w w) S := mv_of rfl hw
@[simp] theorem mv13 {w : W} {a0 a1 a2 a3 a4 a5 a6 a7 a8 a9 a10 a11 a12 : Option W} {r : Rho} {S : Store} (hw : w.isX = false) : m_var 13 (a0 :: a1 :: a2 :: a3 :: a4 :: a5 :: a6 :: a7 :: a8 :: a9 :: a10 :: a11 :: a12 :: some w :: r) S = .ok (.w w) S := mv_of rfl hw
theorem rangeW_len {lo hi : Int} : (rangeW lo hi).length = (hi - lo).toNat := by simp [rangeW]
theorem rangeW_mem {lo hi : Int} {w : W} (h : w ∈ rangeW lo hi) : ∃ k : Nat, w = .int (lo + k) ∧ lo + k < hi := by
  unfold rangeW at h
  obtain ⟨k, hk, rfl⟩ := List.mem_map.mp h
  have := List.mem_range.mp hk
  exact ⟨k, rfl, by omega⟩
theorem i_range1_ok {m : ME} {ρ : Rho} {S S1 : Store} {j : Int} (h : m ρ S = .ok (.w (.int j)) S1) (h0 : 0 ≤ j) (h1 : j ≤ 1000000000000) : i_range1 m ρ S = .ok ⟨rangeW 0 j, fun _ => True⟩ S1 := by
  unfold i_range1
  rw [h, R.ok_bind]
  have e1 : -(2 ^ 62) ≤ j := by
    have : (-(2 ^ 62) : Int) ≤ 0 := by decide
    omega
  have e2 : j < 2 ^ 62 := by
    have : (1000000000000 : Int) < 2 ^ 62 := by decide
    omega
  simp only
  rw [if_pos ⟨e1, e2⟩]
theorem m_lc_ok {mi : MI} {own : List Nat} {g : MG} {tt : MT} {me : ME} {ρ : Rho} {S S1 S2 : Store} {it : Items} {xs : List W} (h : mi ρ S = .ok it S1) (hl : it.ws.length ≤ sizeLine) (h2 : lcL g tt me it.chk (wipeR own ρ) it.ws S1 = .ok xs S2) : m_lc mi own g tt me ρ S = .ok (.l xs) S2 := by
  unfold m_lc
  rw [h, R.ok_bind, if_pos hl, h2, R.ok_bind]
theorem le_size {n : Nat} (h : n ≤ 1000000) : n ≤ sizeLine := Nat.le_trans h (by rw [sizeLine_eq]; decide)
/-- a list made within and handed back -/
theorem gc_new {S : Store} {ws : List W} (h : W.lbs S.length ws = true) : gc S (.w (.loc S.length)) (S ++ [.lst ws]) = .ok (.l ws) S := by
  have e : (T.w (.loc S.length)).open S.length (S ++ [.lst ws]) = .l ws := by
    simp [T.open]
  unfold gc
  rw [e, if_pos ⟨⟨by simp, fun i hi => .inl (List.getElem?_append_left hi)⟩, h⟩]
  simp
theorem mdef_ret {n : Nat} {b : MS} {args : List W} {S S' S'' : Store} {t t' : T} {ρ : Rho} (hρ : ρ = args.map some ++ List.replicate (n - args.length) none) (e : b ρ S = .ret t S') (g : gc S t S' = .ok t' S'') : mdef n b args S = .ok t' S'' := by
  unfold mdef
  rw [← hρ, e]
  exact g
theorem mdef_nxt {n : Nat} {b : MS} {args : List W} {S S' S'' : Store} {t' : T} {ρ ρ' : Rho} (hρ : ρ = args.map some ++ List.replicate (n - args.length) none) (e : b ρ S = .next ρ' S') (g : gc S (.w .non) S' = .ok t' S'') : mdef n b args S = .ok t' S'' := by
  unfold mdef
  rw [← hρ, e]
  exact g
/-- a plain value handed back: what was made in the def may be forgotten -/
theorem gc_plain {S S' : Store} {x : W} (hx : ∀ n S', (T.w x).open n S' = .w x) : gc S (.w x) S' = .ok (.w x) S' ∨ gc S (.w x) S' = .ok (.w x) (S'.take S.length) := by
  rcases gc_or (S := S) (t := .w x) (S' := S') with e | ⟨e, _, _⟩
  · exact .inl e
  · rw [hx] at e; exact .inr e
/-! ### texts in a tuple of texts -/
theorem dats_strs : ∀ xs : List Str, W.dats (xs.map .str) = some (xs.map .str)
  | [] => rfl
  | x :: xs => by simp only [List.map_cons, W.dats, W.dat, dats_strs xs]
theorem lay_strs : ∀ {xs : List Str}, (∀ y ∈ xs, PyData.canLay0 (.str y) = true) → PyData.canLayAll0 (xs.map .str) = true
  | [], _ => by simp [PyData.canLayAll0]
  | x :: xs, h => by
    simp only [List.map_cons, PyData.canLayAll0, Bool.and_eq_true]
    exact ⟨h x (by simp), lay_strs fun y hy => h y (by simp [hy])⟩
theorem depth_strs : ∀ xs : List Str, PyData.depthAll (xs.map .str) = 0
  | [] => by simp [PyData.depthAll]
  | x :: xs => by simp [PyData.depthAll, PyData.depth, depth_strs xs]
theorem shaped_strs {xs : List Str} (h : ∀ y ∈ xs, PyData.canLay0 (.str y) = true) : SeqAt.shaped (.list (xs.map .str)) = true := by
  unfold SeqAt.shaped
  simp [PyData.canLay0, PyData.depth, lay_strs h, depth_strs]
theorem wInB_strs {x : Str} {xs : List Str} {S : Store} (hx : PyData.canLay0 (.str x) = true) (h : ∀ y ∈ xs, PyData.canLay0 (.str y) = true) : wInB (.w (.str x)) (.w (.tup (xs.map .str))) S = some (xs.any fun y => decide (y = x)) := by
  have e : wInB (.w (.str x)) (.w (.tup (xs.map .str))) S = (match contOf (.w (.tup (xs.map .str))) S, (T.w (.str x)).dat S with
    | some ws, some d => match W.dats ws with
      | some ds => if SeqAt.shaped d = true ∧ SeqAt.shaped (.list ds) = true then some (ds.any fun z => PyData.eqv z d) else none
      | none => none
    | _, _ => none) := rfl
  rw [e]
  have e2 : contOf (.w (.tup (xs.map .str))) S = some (xs.map W.str) := rfl
  have e3 : (T.w (.str x)).dat S = some (.str x) := rfl
  rw [e2, e3]
  simp only [dats_strs]
  rw [if_pos ⟨shaped_str hx, shaped_strs h⟩]
  congr 1
  induction xs with
  | nil => rfl
  | cons y ys ih =>
    simp only [List.map_cons, List.any_cons]
    rw [ih (fun z hz => h z (by simp [hz])) rfl rfl]
    congr 1
theorem wIn_strs {x : Str} {xs : List Str} {S : Store} (hx : PyData.canLay0 (.str x) = true) (h : ∀ y ∈ xs, PyData.canLay0 (.str y) = true) : wIn (.w (.str x)) (.w (.tup (xs.map .str))) S = .ok (.w (.bl (xs.any fun y => decide (y = x)))) S := by
  unfold wIn
  rw [wInB_strs hx h]
end Ev

set_option Elab.async false
set_option linter.all false
set_option maxRecDepth 100000
set_option maxHeartbeats 2000000
/-! Ev16: the law's end. -/
namespace Ev
open PySem PySem.Spec PyProof.Rows L2
section
variable {P : Program} {w : World} {K : PySem.W.Frag} {mg : Str → Option Value} {base : Heap} {k : Nat} {f : Addr} {fd : FuncData} {ps : List Str}
theorem to0 {sp : Sp} (F : FnOk P w K mg base (L2N.CX P w) k f fd ps sp) : FnOk P w K mg base CX0 k f fd ps (fun vs H Q _ => sp vs H Q (fun _ _ _ => False)) :=
  ⟨fun vs H Q _ h => F.len vs H Q _ h, fun A outer s H args us vs Q E hr e0 b r h => codeAny_mono (F.run A outer s H args us vs Q (fun _ _ _ => False) hr e0 b r h) fun r s' q => by
    cases r with
    | ok fl => cases fl <;> exact q
    | error e =>
      obtain ⟨_, _, _, _, _, _, _, _, _, _, _, _, z⟩ := q
      exact z⟩
theorem reps_ints {g : Gd} {H : Hp} {φ : List Addr} : ∀ ns : List Int, Reps g H φ (ns.map W.int) (ns.map V.int)
  | [] => by simp only [List.map_nil, Reps]
  | n :: ns => by
    simp only [List.map_cons, Reps]
    exact ⟨_, _, rfl, by simp only [Rep], reps_ints ns⟩
/-- the law's promise, from its mirror -/
def spLaw (K : PySem.W.Frag) (mg : Str → Option Value) (mf : List W → Store → R T) : Sp := fun vs H Q _ => spOf (gd0 K mg) 1 mf vs H Q (fun _ _ _ => False)
theorem law_sp {mf : List W → Store → R T} {H : Hp} {a : Addr} {ns : List Int} {E : XK} (h : ∃ S', mf [.rol (ns.map .int)] [] = .ok (.w (.bl true)) S') (hO : Only H) (hS : SqL K H a (ns.map V.int)) : spLaw K mg mf [.ref a] H (fun v _ => v = .bl true) E := by
  obtain ⟨S', e⟩ := h
  have hR : RoL K H a (ns.map V.int) := by
    rcases hS with (h | ⟨o, h⟩) | h
    · rcases hO a with z | ⟨o, xs, z⟩
      · rw [z] at h; cases h
      · rw [z] at h; cases h
    · exact .inl ⟨o, h⟩
    · exact .inr h
  refine ⟨rfl, [], [], [.rol (ns.map .int)], ⟨rfl, List.nodup_nil, fun i a o q => by simp at q⟩, Reps.sl ?_, ?_⟩
  · simp only [Reps]
    refine ⟨_, _, rfl, ?_, rfl⟩
    simp only [Rep]
    exact ⟨a, _, rfl, hR, reps_ints ns⟩
  · rw [e]
    intro v H' φ' e1 s1 r1
    have := r1.1
    simp only [TRep, Rep] at this
    exact this
end
end Ev

set_option Elab.async false
set_option linter.all false
set_option maxRecDepth 100000
set_option maxHeartbeats 4000000
namespace K19
open PySem PySem.Spec PyProof.Rows L2 Ev
abbrev top (i : Nat) : Stmt := PySem.Challenge.pw_pressnotes_k19_refusals_apart.main.body.getD i (.Pass ⟨0, 0, 0, 0⟩)
abbrev errs : List Str := ["NoNumber", "NoStars", "NoRow", "NoPage", "NoPaper", "NoWorld", "NoBack", "NoText", "NoLine"]
abbrev fs_NoNumber : List Str := ["number"]
abbrev fs_NoStars : List Str := ["many"]
abbrev fs_NoRow : List Str := ["place"]
abbrev fs_NoPage : List Str := ["word", "name"]
abbrev fs_NoPaper : List Str := ["word", "place"]
abbrev fs_NoWorld : List Str := ["word"]
abbrev fs_NoBack : List Str := []
abbrev fs_NoText : List Str := ["row", "word"]
abbrev fs_NoLine : List Str := ["line"]
abbrev kn_line : List Str := ["NoLine"]
abbrev kn_many : List Str := ["NoStars"]
abbrev kn_name : List Str := ["NoPage"]
abbrev kn_number : List Str := ["NoNumber"]
abbrev kn_place : List Str := ["NoRow", "NoPaper"]
abbrev kn_row : List Str := ["NoText"]
abbrev kn_word : List Str := ["NoPage", "NoPaper", "NoWorld", "NoText"]
abbrev N_law_draw : List Str := ["_law_feed_here", "_law_many", "_law_found", "_law_k", "_law_cell", "_law_mixed"]
abbrev ps_law_draw : List Str := ["_law_feed_here", "_law_many"]
noncomputable def b_law_draw : MS :=
  s_seq (s_if (t_val (m_op2 wGt (m_op2 wIx (m_var 0) (m_c (.int 0))) (m_c (.int 0)))) (s_seq (s_set 2 (m_op2 wMod (m_op2 wIx (m_var 0) (m_c (.int 0))) (m_var 1))) (s_seq (s_asg (m_op2 wDiv (m_op2 wIx (m_var 0) (m_c (.int 0))) (m_var 1)) (g_sub (m_var 0) (m_c (.int 0)))) (s_ret (m_var 2)))) (s_nil)) (s_seq (s_asg (m_op2 wAdd (m_op2 wIx (m_var 0) (m_c (.int 2))) (m_c (.int 1))) (g_sub (m_var 0) (m_c (.int 2)))) (s_seq (s_set 3 (m_op2 wIx (m_var 0) (m_c (.int 2)))) (s_seq (s_set 4 (m_op2 wMod (m_op2 wIx (m_op2 wIx (m_var 0) (m_c (.int 1))) (m_op2 wMod (m_var 3) (m_b1 fLen (m_op2 wIx (m_var 0) (m_c (.int 1)))))) (m_c (.int 2147483629)))) (s_seq (s_set 5 (m_op2 wMod (m_op2 wAdd (m_op2 wAdd (m_op2 wAdd (m_op2 wMul (m_var 4) (m_c (.int 48271))) (m_op2 wMul (m_op2 wMul (m_c (.int 7919)) (m_var 3)) (m_var 3))) (m_op2 wMul (m_c (.int 40692)) (m_var 3))) (m_c (.int 12345))) (m_c (.int 2147483647)))) (s_seq (s_set 5 (m_op2 wMod (m_op2 wAdd (m_op2 wMul (m_var 5) (m_c (.int 69621))) (m_var 3)) (m_c (.int 2147483399)))) (s_ret (m_op2 wMod (m_op2 wMod (m_op2 wMul (m_var 5) (m_c (.int 16807))) (m_c (.int 2147483563))) (m_var 1))))))))
noncomputable def m_law_draw : List W → Store → R T := mdef 6 b_law_draw
abbrev N_law_feed : List Str := ["_law_script", "_law_cells", "_law_great", "_law_cell"]
abbrev ps_law_feed : List Str := ["_law_script"]
noncomputable def b_law_feed : MS :=
  s_seq (s_set 1 (m_op2 wAdd (m_lc (i_seq (m_sl (m_var 0) (o_none) (o_some (m_c (.int 63))))) [3] (g_name 3) (t_yes) (m_b1 fAbs (m_var 3))) (m_lst (m_cons (m_c (.int 0)) (m_nil))))) (s_seq (s_set 2 (m_c (.int 0))) (s_seq (s_if (t_val (m_op2 wGe (m_op2 wIx (m_var 1) (m_c (.int 0))) (m_op2 wPow (m_c (.int 10)) (m_c (.int 18))))) (s_set 2 (m_op2 wIx (m_var 1) (m_c (.int 0)))) (s_nil)) (s_ret (m_lst (m_cons (m_var 2) (m_cons (m_var 1) (m_cons (m_c (.int 0)) (m_nil))))))))
noncomputable def m_law_feed : List W → Store → R T := mdef 4 b_law_feed
abbrev N_law_fields : List Str := ["_law_word", "_law_e"]
abbrev ps_law_fields : List Str := ["_law_word", "_law_e"]
noncomputable def b_law_fields : MS :=
  s_seq (s_if (t_val (m_op2 wEq (m_var 0) (m_c (.str "number")))) (s_ret (m_lst (m_cons (m_xf 1 "number" kn_number) (m_nil)))) (s_nil)) (s_seq (s_if (t_val (m_op2 wEq (m_var 0) (m_c (.str "stars")))) (s_ret (m_lst (m_cons (m_xf 1 "many" kn_many) (m_nil)))) (s_nil)) (s_seq (s_if (t_val (m_op2 wEq (m_var 0) (m_c (.str "row")))) (s_ret (m_lst (m_cons (m_xf 1 "place" kn_place) (m_nil)))) (s_nil)) (s_seq (s_if (t_val (m_op2 wEq (m_var 0) (m_c (.str "page")))) (s_ret (m_lst (m_cons (m_xf 1 "word" kn_word) (m_cons (m_xf 1 "name" kn_name) (m_nil))))) (s_nil)) (s_seq (s_if (t_val (m_op2 wEq (m_var 0) (m_c (.str "paper")))) (s_ret (m_lst (m_cons (m_xf 1 "word" kn_word) (m_cons (m_xf 1 "place" kn_place) (m_nil))))) (s_nil)) (s_seq (s_if (t_val (m_op2 wEq (m_var 0) (m_c (.str "world")))) (s_ret (m_lst (m_cons (m_xf 1 "word" kn_word) (m_nil)))) (s_nil)) (s_seq (s_if (t_val (m_op2 wEq (m_var 0) (m_c (.str "back")))) (s_ret (m_lst (m_nil))) (s_nil)) (s_seq (s_if (t_val (m_op2 wEq (m_var 0) (m_c (.str "text")))) (s_ret (m_lst (m_cons (m_xf 1 "row" kn_row) (m_cons (m_xf 1 "word" kn_word) (m_nil))))) (s_nil)) (s_ret (m_lst (m_cons (m_xf 1 "line" kn_line) (m_nil)))))))))))
noncomputable def m_law_fields : List W → Store → R T := mdef 2 b_law_fields
abbrev N_law_grow : List Str := ["_law_thing_here", "_law_one"]
abbrev ps_law_grow : List Str := ["_law_thing_here"]
noncomputable def b_law_grow (self : List W → Store → R T) : MS :=
  s_seq (s_if (t_val (m_isi (m_var 0) ["list", "tuple"])) (s_for (i_lst (m_b1 fList (m_var 0))) (g_name 1) [1] (s_expr (m_call 1 self (m_cons (m_var 1) (m_nil))))) (s_nil)) (s_if (t_val (m_isi (m_var 0) ["list"])) (s_expr (m_append (m_var 0) (m_c (.int 7)))) (s_nil))
noncomputable def m_law_grow : Nat → List W → Store → R T
  | 0 => fun _ _ => .no
  | n + 1 => mdef 2 (b_law_grow (m_law_grow n))
abbrev N_law_raise : List Str := ["_law_word", "_law_one", "_law_other"]
abbrev ps_law_raise : List Str := ["_law_word", "_law_one", "_law_other"]
noncomputable def b_law_raise : MS :=
  s_seq (s_if (t_val (m_op2 wEq (m_var 0) (m_c (.str "number")))) (s_raise "NoNumber" fs_NoNumber (m_cons (m_var 1) (m_nil))) (s_nil)) (s_seq (s_if (t_val (m_op2 wEq (m_var 0) (m_c (.str "stars")))) (s_raise "NoStars" fs_NoStars (m_cons (m_var 1) (m_nil))) (s_nil)) (s_seq (s_if (t_val (m_op2 wEq (m_var 0) (m_c (.str "row")))) (s_raise "NoRow" fs_NoRow (m_cons (m_var 1) (m_nil))) (s_nil)) (s_seq (s_if (t_val (m_op2 wEq (m_var 0) (m_c (.str "page")))) (s_raise "NoPage" fs_NoPage (m_cons (m_var 1) (m_cons (m_var 2) (m_nil)))) (s_nil)) (s_seq (s_if (t_val (m_op2 wEq (m_var 0) (m_c (.str "paper")))) (s_raise "NoPaper" fs_NoPaper (m_cons (m_var 1) (m_cons (m_var 2) (m_nil)))) (s_nil)) (s_seq (s_if (t_val (m_op2 wEq (m_var 0) (m_c (.str "world")))) (s_raise "NoWorld" fs_NoWorld (m_cons (m_var 1) (m_nil))) (s_nil)) (s_seq (s_if (t_val (m_op2 wEq (m_var 0) (m_c (.str "back")))) (s_raise0 "NoBack") (s_nil)) (s_seq (s_if (t_val (m_op2 wEq (m_var 0) (m_c (.str "text")))) (s_raise "NoText" fs_NoText (m_cons (m_var 1) (m_cons (m_var 2) (m_nil)))) (s_nil)) (s_raise "NoLine" fs_NoLine (m_cons (m_var 1) (m_nil))))))))))
noncomputable def m_law_raise : List W → Store → R T := mdef 3 b_law_raise
abbrev N_law_same : List Str := ["_law_found", "_law_due", "_law_kind", "_law_k"]
abbrev ps_law_same : List Str := ["_law_found", "_law_due"]
noncomputable def b_law_same (self : List W → Store → R T) : MS :=
  s_seq (s_if (t_val (m_isi (m_var 1) ["tuple", "list"])) (s_seq (s_set 2 (m_if (t_val (m_isi (m_var 1) ["tuple"])) (m_isi (m_var 0) ["tuple"]) (m_isi (m_var 0) ["list"]))) (s_seq (s_if (t_or (t_not (t_val (m_var 2))) (t_val (m_op2 wNe (m_b1 fLen (m_var 0)) (m_b1 fLen (m_var 1))))) (s_ret (m_c (.bl false))) (s_nil)) (s_ret (m_b1 fAll (m_lc (i_range1 (m_b1 fLen (m_var 1))) [3] (g_name 3) (t_yes) (m_call 2 self (m_cons (m_op2 wIx (m_var 0) (m_var 3)) (m_cons (m_op2 wIx (m_var 1) (m_var 3)) (m_nil))))))))) (s_nil)) (s_seq (s_if (t_val (m_op2 wIsN (m_var 1) (m_c .non))) (s_ret (m_op2 wIsN (m_var 0) (m_c .non))) (s_nil)) (s_seq (s_if (t_val (m_isi (m_var 1) ["str"])) (s_ret (m_and (m_isi (m_var 0) ["str"]) (m_op2 wEq (m_var 0) (m_var 1)))) (s_nil)) (s_seq (s_if (t_val (m_isi (m_var 1) ["bool"])) (s_ret (m_and (m_isi (m_var 0) ["bool"]) (m_op2 wEq (m_var 0) (m_var 1)))) (s_nil)) (s_ret (m_and (m_isi (m_var 0) ["int"]) (m_and (m_not (m_isi (m_var 0) ["bool"])) (m_op2 wEq (m_var 0) (m_var 1))))))))
noncomputable def m_law_same : Nat → List W → Store → R T
  | 0 => fun _ _ => .no
  | n + 1 => mdef 4 (b_law_same (m_law_same n))
abbrev N_law_words_of : List Str := ["_law_e", "_law_found"]
abbrev ps_law_words_of : List Str := ["_law_e"]
noncomputable def b_law_words_of : MS :=
  s_seq (s_set 1 (m_lst (m_nil))) (s_seq (s_if (t_val (m_isx 0 errs ["NoNumber"])) (s_expr (m_append (m_var 1) (m_c (.str "number")))) (s_nil)) (s_seq (s_if (t_val (m_isx 0 errs ["NoStars"])) (s_expr (m_append (m_var 1) (m_c (.str "stars")))) (s_nil)) (s_seq (s_if (t_val (m_isx 0 errs ["NoRow"])) (s_expr (m_append (m_var 1) (m_c (.str "row")))) (s_nil)) (s_seq (s_if (t_val (m_isx 0 errs ["NoPage"])) (s_expr (m_append (m_var 1) (m_c (.str "page")))) (s_nil)) (s_seq (s_if (t_val (m_isx 0 errs ["NoPaper"])) (s_expr (m_append (m_var 1) (m_c (.str "paper")))) (s_nil)) (s_seq (s_if (t_val (m_isx 0 errs ["NoWorld"])) (s_expr (m_append (m_var 1) (m_c (.str "world")))) (s_nil)) (s_seq (s_if (t_val (m_isx 0 errs ["NoBack"])) (s_expr (m_append (m_var 1) (m_c (.str "back")))) (s_nil)) (s_seq (s_if (t_val (m_isx 0 errs ["NoText"])) (s_expr (m_append (m_var 1) (m_c (.str "text")))) (s_nil)) (s_seq (s_if (t_val (m_isx 0 errs ["NoLine"])) (s_expr (m_append (m_var 1) (m_c (.str "line")))) (s_nil)) (s_ret (m_var 1)))))))))))
noncomputable def m_law_words_of : List W → Store → R T := mdef 2 b_law_words_of
abbrev N_law_right : List Str := ["_law_word", "_law_one", "_law_other", "_law_kinds", "_law_fields_here", "_law_e", "_law_due"]
abbrev ps_law_right : List Str := ["_law_word", "_law_one", "_law_other"]
noncomputable def b_law_right : MS :=
  s_seq (s_set 3 (m_c .non)) (s_seq (s_set 4 (m_c .non)) (s_seq (s_try 5 errs errs (s_expr (m_call 3 m_law_raise (m_cons (m_var 0) (m_cons (m_var 1) (m_cons (m_var 2) (m_nil)))))) (s_seq (s_set 3 (m_call 1 m_law_words_of (m_consX 5 (m_nil)))) (s_if (t_and (t_val (m_op2 wEq (m_var 3) (m_lst (m_cons (m_var 0) (m_nil))))) (t_val (m_isx 5 errs errs))) (s_seq (s_expr (m_call 1 (m_law_grow 12) (m_cons (m_var 1) (m_nil)))) (s_seq (s_expr (m_call 1 (m_law_grow 12) (m_cons (m_var 2) (m_nil)))) (s_set 4 (m_call 2 m_law_fields (m_cons (m_var 0) (m_consX 5 (m_nil))))))) (s_nil)))) (s_seq (s_set 6 (m_if (t_val (m_op2 wIn (m_var 0) (m_tup (m_cons (m_c (.str "page")) (m_cons (m_c (.str "paper")) (m_cons (m_c (.str "text")) (m_nil))))))) (m_lst (m_cons (m_var 1) (m_cons (m_var 2) (m_nil)))) (m_lst (m_cons (m_var 1) (m_nil))))) (s_seq (s_if (t_val (m_op2 wEq (m_var 0) (m_c (.str "back")))) (s_set 6 (m_lst (m_nil))) (s_nil)) (s_ret (m_and (m_op2 wEq (m_var 3) (m_lst (m_cons (m_var 0) (m_nil)))) (m_call 2 (m_law_same 12) (m_cons (m_var 4) (m_cons (m_var 6) (m_nil))))))))))
noncomputable def m_law_right : List W → Store → R T := mdef 7 b_law_right
abbrev N_law_thing : List Str := ["_law_feed_here", "_law_deep", "_law_way", "_law_some", "_law_k"]
abbrev ps_law_thing : List Str := ["_law_feed_here", "_law_deep"]
noncomputable def b_law_thing (self : List W → Store → R T) : MS :=
  s_seq (s_set 2 (m_call 2 m_law_draw (m_cons (m_var 0) (m_cons (m_c (.int 9)) (m_nil))))) (s_seq (s_if (t_and (t_val (m_op2 wLt (m_var 2) (m_c (.int 2)))) (t_val (m_op2 wGt (m_var 1) (m_c (.int 0))))) (s_ret (m_lc (i_range1 (m_call 2 m_law_draw (m_cons (m_var 0) (m_cons (m_c (.int 3)) (m_nil))))) [4] (g_name 4) (t_yes) (m_call 2 self (m_cons (m_var 0) (m_cons (m_op2 wSub (m_var 1) (m_c (.int 1))) (m_nil)))))) (s_nil)) (s_seq (s_if (t_and (t_val (m_op2 wLt (m_var 2) (m_c (.int 4)))) (t_val (m_op2 wGt (m_var 1) (m_c (.int 0))))) (s_ret (m_b1 fTuple (m_lc (i_range1 (m_call 2 m_law_draw (m_cons (m_var 0) (m_cons (m_c (.int 3)) (m_nil))))) [4] (g_name 4) (t_yes) (m_call 2 self (m_cons (m_var 0) (m_cons (m_op2 wSub (m_var 1) (m_c (.int 1))) (m_nil))))))) (s_nil)) (s_seq (s_set 3 (m_lst (m_cons (m_c .non) (m_cons (m_c (.bl true)) (m_cons (m_c (.bl false)) (m_cons (m_c (.str "")) (m_cons (m_c (.str "a7")) (m_cons (m_c (.str "none")) (m_cons (m_c (.int 0)) (m_cons (m_c (.int 1)) (m_cons (m_op1 wNeg (m_c (.int 1))) (m_cons (m_op2 wPow (m_c (.int 10)) (m_c (.int 39))) (m_cons (m_op2 wSub (m_c (.int 0)) (m_op2 wPow (m_c (.int 10)) (m_c (.int 39)))) (m_cons (m_c (.str "x y")) (m_nil))))))))))))))) (s_ret (m_op2 wIx (m_var 3) (m_call 2 m_law_draw (m_cons (m_var 0) (m_cons (m_c (.int 12)) (m_nil)))))))))
noncomputable def m_law_thing : Nat → List W → Store → R T
  | 0 => fun _ _ => .no
  | n + 1 => mdef 5 (b_law_thing (m_law_thing n))
abbrev Nlaw : List Str := ["_law_script", "_law_feed_here", "_law_words", "_law_first", "_law_word"]
abbrev pslaw : List Str := ["_law_script"]
noncomputable def blaw : MS :=
  s_seq (s_set 1 (m_call 1 m_law_feed (m_cons (m_var 0) (m_nil)))) (s_seq (s_set 2 (m_lst (m_cons (m_c (.str "number")) (m_cons (m_c (.str "stars")) (m_cons (m_c (.str "row")) (m_cons (m_c (.str "page")) (m_cons (m_c (.str "paper")) (m_cons (m_c (.str "world")) (m_cons (m_c (.str "back")) (m_cons (m_c (.str "text")) (m_cons (m_c (.str "line")) (m_nil)))))))))))) (s_seq (s_set 3 (m_call 2 m_law_draw (m_cons (m_var 1) (m_cons (m_c (.int 9)) (m_nil))))) (s_seq (s_for (i_seq (m_op2 wAdd (m_op2 wAdd (m_sl (m_var 2) (o_some (m_var 3)) (o_none)) (m_var 2)) (m_sl (m_var 2) (o_none) (o_some (m_var 3))))) (g_name 4) [4] (s_if (t_not (t_val (m_call 3 m_law_right (m_cons (m_var 4) (m_cons (m_call 2 (m_law_thing 12) (m_cons (m_var 1) (m_cons (m_c (.int 3)) (m_nil)))) (m_cons (m_call 2 (m_law_thing 12) (m_cons (m_var 1) (m_cons (m_c (.int 2)) (m_nil)))) (m_nil))))))) (s_ret (m_c (.bl false))) (s_nil))) (s_ret (m_c (.bl true))))))
noncomputable def mlaw : List W → Store → R T := mdef 5 blaw
/-- what stands behind the top -/
structure G (P : Program) (w : World) (K : PySem.W.Frag) (mg : Str → Option Value) : Prop where
  f_law_draw : FnS K mg "_law_draw" (top 13) ps_law_draw
  f_law_feed : FnS K mg "_law_feed" (top 12) ps_law_feed
  f_law_fields : FnS K mg "_law_fields" (top 16) ps_law_fields
  f_law_grow : FnS K mg "_law_grow" (top 19) ps_law_grow
  f_law_raise : FnS K mg "_law_raise" (top 15) ps_law_raise
  f_law_same : FnS K mg "_law_same" (top 14) ps_law_same
  f_law_words_of : FnS K mg "_law_words_of" (top 17) ps_law_words_of
  f_law_right : FnS K mg "_law_right" (top 20) ps_law_right
  f_law_thing : FnS K mg "_law_thing" (top 18) ps_law_thing
  flaw : FnS K mg "law" (top 21) pslaw
  b_ValueError : mg "ValueError" = none
  b_abs : mg "abs" = none
  b_all : mg "all" = none
  b_bool : mg "bool" = none
  b_int : mg "int" = none
  b_isinstance : mg "isinstance" = none
  b_len : mg "len" = none
  b_list : mg "list" = none
  b_range : mg "range" = none
  b_str : mg "str" = none
  b_tuple : mg "tuple" = none
  es : Errs K mg errs "NoteError"
  e_NoNumber : ∀ base, ErrX P w K mg base "NoNumber" fs_NoNumber (He.ga K "NoNumber")
  e_NoStars : ∀ base, ErrX P w K mg base "NoStars" fs_NoStars (He.ga K "NoStars")
  e_NoRow : ∀ base, ErrX P w K mg base "NoRow" fs_NoRow (He.ga K "NoRow")
  e_NoPage : ∀ base, ErrX P w K mg base "NoPage" fs_NoPage (He.ga K "NoPage")
  e_NoPaper : ∀ base, ErrX P w K mg base "NoPaper" fs_NoPaper (He.ga K "NoPaper")
  e_NoWorld : ∀ base, ErrX P w K mg base "NoWorld" fs_NoWorld (He.ga K "NoWorld")
  e_NoBack : ∀ base, ErrX P w K mg base "NoBack" fs_NoBack (He.ga K "NoBack")
  e_NoText : ∀ base, ErrX P w K mg base "NoText" fs_NoText (He.ga K "NoText")
  e_NoLine : ∀ base, ErrX P w K mg base "NoLine" fs_NoLine (He.ga K "NoLine")
  k_line : ∀ c ∈ kn_line, c ∈ errs ∧ PySem.W.findIn K (.ref (He.ga K c)) "line" = some none
  k_many : ∀ c ∈ kn_many, c ∈ errs ∧ PySem.W.findIn K (.ref (He.ga K c)) "many" = some none
  k_name : ∀ c ∈ kn_name, c ∈ errs ∧ PySem.W.findIn K (.ref (He.ga K c)) "name" = some none
  k_number : ∀ c ∈ kn_number, c ∈ errs ∧ PySem.W.findIn K (.ref (He.ga K c)) "number" = some none
  k_place : ∀ c ∈ kn_place, c ∈ errs ∧ PySem.W.findIn K (.ref (He.ga K c)) "place" = some none
  k_row : ∀ c ∈ kn_row, c ∈ errs ∧ PySem.W.findIn K (.ref (He.ga K c)) "row" = some none
  k_word : ∀ c ∈ kn_word, c ∈ errs ∧ PySem.W.findIn K (.ref (He.ga K c)) "word" = some none
section
variable {P : Program} {w : World} {K : PySem.W.Frag} {mg : Str → Option Value} {base : Heap}
theorem sc_law_draw : FnScope N_law_draw ps_law_draw (defScope (top 13)) := ⟨rfl, rfl, rfl, by decide +kernel, rfl, by decide +kernel, by decide +kernel⟩
theorem d_law_draw (g : G P w K mg) : DoesN P w K mg base 3 "_law_draw" ps_law_draw m_law_draw := doesN (k := 2) g.f_law_draw sc_law_draw fun X Z h t c => (ss_cons (ss_if (z_gt (se_ix (v_var h 0) se_int) se_int) (ss_cons (v_set h 2 (v_mod (se_ix (v_var h 0) se_int) (v_var h 1))) (ss_cons (ss_asg (v_div (se_ix (v_var h 0) se_int) (v_var h 1)) (sg_sub (v_var h 0) se_int)) (ss_one (ss_ret (v_var h 2))))) ss_nil) (ss_cons (ss_asg (v_add (se_ix (v_var h 0) se_int) se_int) (sg_sub (v_var h 0) se_int)) (ss_cons (v_set h 3 (se_ix (v_var h 0) se_int)) (ss_cons (v_set h 4 (v_mod (se_ix (se_ix (v_var h 0) se_int) (v_mod (v_var h 3) (v_len h g.b_len (se_ix (v_var h 0) se_int)))) se_int)) (ss_cons (v_set h 5 (v_mod (v_add (v_add (v_add (v_mul (v_var h 4) se_int) (v_mul (v_mul se_int (v_var h 3)) (v_var h 3))) (v_mul se_int (v_var h 3))) se_int) se_int)) (ss_cons (v_set h 5 (v_mod (v_add (v_mul (v_var h 5) se_int) (v_var h 3)) se_int)) (ss_one (ss_ret (v_mod (v_mod (v_mul (v_var h 5) se_int) se_int) (v_var h 1))))))))))
theorem sc_law_feed : FnScope N_law_feed ps_law_feed (defScope (top 12)) := ⟨rfl, rfl, rfl, by decide +kernel, rfl, by decide +kernel, by decide +kernel⟩
theorem d_law_feed (g : G P w K mg) : DoesN P w K mg base 3 "_law_feed" ps_law_feed m_law_feed := doesN (k := 2) g.f_law_feed sc_law_feed fun X Z h t c => (ss_cons (v_set h 1 (v_add (v_lc h c [("_law_cell", 3)] (si_seq (se_sl (v_var h 0) so_none (so_some se_int))) (fun X h c => (v_gname h 3)) (fun X h c => sts_nil) (fun X h c => (v_abs h g.b_abs (v_var h 3)))) (se_lst (sa_cons se_int sa_nil)))) (ss_cons (v_set h 2 se_int) (ss_cons (ss_if (z_ge (se_ix (v_var h 1) se_int) (v_pow se_int se_int)) (ss_one (v_set h 2 (se_ix (v_var h 1) se_int))) ss_nil) (ss_one (ss_ret (se_lst (sa_cons (v_var h 2) (sa_cons (v_var h 1) (sa_cons se_int sa_nil)))))))))
theorem sc_law_fields : FnScope N_law_fields ps_law_fields (defScope (top 16)) := ⟨rfl, rfl, rfl, by decide +kernel, rfl, by decide +kernel, by decide +kernel⟩
theorem dh_law_fields (g : G P w K mg) : DoesHN P w K mg base 3 "_law_fields" ps_law_fields m_law_fields := doesHN (k := 2) g.f_law_fields sc_law_fields fun X Z p h t c => (ss_cons (ss_if (z_eq c.hu (v_var h 0) se_str) (ss_one (ss_ret (se_lst (sa_cons (v_xf h c 1 (g.es.xf g.k_number)) sa_nil)))) ss_nil) (ss_cons (ss_if (z_eq c.hu (v_var h 0) se_str) (ss_one (ss_ret (se_lst (sa_cons (v_xf h c 1 (g.es.xf g.k_many)) sa_nil)))) ss_nil) (ss_cons (ss_if (z_eq c.hu (v_var h 0) se_str) (ss_one (ss_ret (se_lst (sa_cons (v_xf h c 1 (g.es.xf g.k_place)) sa_nil)))) ss_nil) (ss_cons (ss_if (z_eq c.hu (v_var h 0) se_str) (ss_one (ss_ret (se_lst (sa_cons (v_xf h c 1 (g.es.xf g.k_word)) (sa_cons (v_xf h c 1 (g.es.xf g.k_name)) sa_nil))))) ss_nil) (ss_cons (ss_if (z_eq c.hu (v_var h 0) se_str) (ss_one (ss_ret (se_lst (sa_cons (v_xf h c 1 (g.es.xf g.k_word)) (sa_cons (v_xf h c 1 (g.es.xf g.k_place)) sa_nil))))) ss_nil) (ss_cons (ss_if (z_eq c.hu (v_var h 0) se_str) (ss_one (ss_ret (se_lst (sa_cons (v_xf h c 1 (g.es.xf g.k_word)) sa_nil)))) ss_nil) (ss_cons (ss_if (z_eq c.hu (v_var h 0) se_str) (ss_one (ss_ret (se_lst sa_nil))) ss_nil) (ss_cons (ss_if (z_eq c.hu (v_var h 0) se_str) (ss_one (ss_ret (se_lst (sa_cons (v_xf h c 1 (g.es.xf g.k_row)) (sa_cons (v_xf h c 1 (g.es.xf g.k_word)) sa_nil))))) ss_nil) (ss_one (ss_ret (se_lst (sa_cons (v_xf h c 1 (g.es.xf g.k_line)) sa_nil))))))))))))
theorem sc_law_grow : FnScope N_law_grow ps_law_grow (defScope (top 19)) := ⟨rfl, rfl, rfl, by decide +kernel, rfl, by decide +kernel, by decide +kernel⟩
theorem dh_law_grow (g : G P w K mg) (n : Nat) : DoesHN P w K mg base (2 + n) "_law_grow" ps_law_grow (m_law_grow n) := by
  induction n with
  | zero => exact doesHNo g.f_law_grow sc_law_grow
  | succ n D => exact doesHN (k := 2 + n) g.f_law_grow sc_law_grow fun X Z p h t c => (ss_cons (ss_if (st_val (v_isiN h g.b_isinstance (v_var h 0) (pa_tys_cons (v_ty h g.b_list bt_list) (pa_tys_cons (v_ty h g.b_tuple bt_tuple) pa_tys_nil)))) (ss_one (v_forH c [1] (si_lstH (v_list h g.b_list (v_var h 0))) (v_gname h 1) (ss_one (ss_expr (v_callH h c D (Nat.le_refl _) (sa_cons (v_var h 1) sa_nil)))))) ss_nil) (ss_one (ss_if (st_val (v_isi1 h g.b_isinstance (v_var h 0) (v_ty h g.b_list bt_list))) (ss_one (ss_expr (se_append (v_var h 0) se_int))) ss_nil)))
theorem sc_law_raise : FnScope N_law_raise ps_law_raise (defScope (top 15)) := ⟨rfl, rfl, rfl, by decide +kernel, rfl, by decide +kernel, by decide +kernel⟩
theorem d_law_raise (g : G P w K mg) : DoesN P w K mg base 3 "_law_raise" ps_law_raise m_law_raise := doesN (k := 2) g.f_law_raise sc_law_raise fun X Z h t c => (ss_cons (ss_if (z_eq c.hu (v_var h 0) se_str) (ss_one (v_raise (k := 0) h (c.mono (by omega)) (g.e_NoNumber _) (sa_cons (v_var h 1) sa_nil))) ss_nil) (ss_cons (ss_if (z_eq c.hu (v_var h 0) se_str) (ss_one (v_raise (k := 0) h (c.mono (by omega)) (g.e_NoStars _) (sa_cons (v_var h 1) sa_nil))) ss_nil) (ss_cons (ss_if (z_eq c.hu (v_var h 0) se_str) (ss_one (v_raise (k := 0) h (c.mono (by omega)) (g.e_NoRow _) (sa_cons (v_var h 1) sa_nil))) ss_nil) (ss_cons (ss_if (z_eq c.hu (v_var h 0) se_str) (ss_one (v_raise (k := 0) h (c.mono (by omega)) (g.e_NoPage _) (sa_cons (v_var h 1) (sa_cons (v_var h 2) sa_nil)))) ss_nil) (ss_cons (ss_if (z_eq c.hu (v_var h 0) se_str) (ss_one (v_raise (k := 0) h (c.mono (by omega)) (g.e_NoPaper _) (sa_cons (v_var h 1) (sa_cons (v_var h 2) sa_nil)))) ss_nil) (ss_cons (ss_if (z_eq c.hu (v_var h 0) se_str) (ss_one (v_raise (k := 0) h (c.mono (by omega)) (g.e_NoWorld _) (sa_cons (v_var h 1) sa_nil))) ss_nil) (ss_cons (ss_if (z_eq c.hu (v_var h 0) se_str) (ss_one (v_raise0 (k := 0) h (c.mono (by omega)) (g.e_NoBack _))) ss_nil) (ss_cons (ss_if (z_eq c.hu (v_var h 0) se_str) (ss_one (v_raise (k := 0) h (c.mono (by omega)) (g.e_NoText _) (sa_cons (v_var h 1) (sa_cons (v_var h 2) sa_nil)))) ss_nil) (ss_one (v_raise (k := 0) h (c.mono (by omega)) (g.e_NoLine _) (sa_cons (v_var h 1) sa_nil)))))))))))
theorem sc_law_same : FnScope N_law_same ps_law_same (defScope (top 14)) := ⟨rfl, rfl, rfl, by decide +kernel, rfl, by decide +kernel, by decide +kernel⟩
theorem d_law_same (g : G P w K mg) (n : Nat) : DoesN P w K mg base (2 + n) "_law_same" ps_law_same (m_law_same n) := by
  induction n with
  | zero => exact doesNo g.f_law_same sc_law_same
  | succ n D => exact doesN (k := 2 + n) g.f_law_same sc_law_same fun X Z h t c => (ss_cons (ss_if (st_val (v_isiN h g.b_isinstance (v_var h 1) (pa_tys_cons (v_ty h g.b_tuple bt_tuple) (pa_tys_cons (v_ty h g.b_list bt_list) pa_tys_nil)))) (ss_cons (v_set h 2 (se_if (st_val (v_isi1 h g.b_isinstance (v_var h 1) (v_ty h g.b_tuple bt_tuple))) (v_isi1 h g.b_isinstance (v_var h 0) (v_ty h g.b_tuple bt_tuple)) (v_isi1 h g.b_isinstance (v_var h 0) (v_ty h g.b_list bt_list)))) (ss_cons (ss_if (st_bool (sw_or (st_not (st_val (v_var h 2))) (sw_or1 (z_ne c.hu (v_len h g.b_len (v_var h 0)) (v_len h g.b_len (v_var h 1)))))) (ss_one (ss_ret se_bl)) ss_nil) (ss_one (ss_ret (v_all h c.calm g.b_all (v_lc h c [("_law_k", 3)] (v_range1 h g.b_range (v_len h g.b_len (v_var h 1))) (fun X h c => (v_gname h 3)) (fun X h c => sts_nil) (fun X h c => (v_call h c D (Nat.le_refl _) (sa_cons (se_ix (v_var h 0) (v_var h 3)) (sa_cons (se_ix (v_var h 1) (v_var h 3)) sa_nil)))))))))) ss_nil) (ss_cons (ss_if (z_is (v_var h 1) se_non) (ss_one (ss_ret (v_is (v_var h 0) se_non))) ss_nil) (ss_cons (ss_if (st_val (v_isi1 h g.b_isinstance (v_var h 1) (v_ty h g.b_str bt_str))) (ss_one (ss_ret (se_and (v_isi1 h g.b_isinstance (v_var h 0) (v_ty h g.b_str bt_str)) (se_one (v_eq c.hu (v_var h 0) (v_var h 1)))))) ss_nil) (ss_cons (ss_if (st_val (v_isi1 h g.b_isinstance (v_var h 1) (v_ty h g.b_bool bt_bool))) (ss_one (ss_ret (se_and (v_isi1 h g.b_isinstance (v_var h 0) (v_ty h g.b_bool bt_bool)) (se_one (v_eq c.hu (v_var h 0) (v_var h 1)))))) ss_nil) (ss_one (ss_ret (se_and (v_isi1 h g.b_isinstance (v_var h 0) (v_ty h g.b_int bt_int)) (se_and (se_not (v_isi1 h g.b_isinstance (v_var h 0) (v_ty h g.b_bool bt_bool))) (se_one (v_eq c.hu (v_var h 0) (v_var h 1)))))))))))
theorem sc_law_words_of : FnScope N_law_words_of ps_law_words_of (defScope (top 17)) := ⟨rfl, rfl, rfl, by decide +kernel, rfl, by decide +kernel, by decide +kernel⟩
theorem dh_law_words_of (g : G P w K mg) : DoesHN P w K mg base 3 "_law_words_of" ps_law_words_of m_law_words_of := doesHN (k := 2) g.f_law_words_of sc_law_words_of fun X Z p h t c => (ss_cons (v_set h 1 (se_lst sa_nil)) (ss_cons (ss_if (st_val (v_isx1 h c 0 g.b_isinstance (v_cls h (g.es.g "NoNumber" (by decide))) hcv_ref (g.es.is1 (by decide)))) (ss_one (ss_expr (se_append (v_var h 1) se_str))) ss_nil) (ss_cons (ss_if (st_val (v_isx1 h c 0 g.b_isinstance (v_cls h (g.es.g "NoStars" (by decide))) hcv_ref (g.es.is1 (by decide)))) (ss_one (ss_expr (se_append (v_var h 1) se_str))) ss_nil) (ss_cons (ss_if (st_val (v_isx1 h c 0 g.b_isinstance (v_cls h (g.es.g "NoRow" (by decide))) hcv_ref (g.es.is1 (by decide)))) (ss_one (ss_expr (se_append (v_var h 1) se_str))) ss_nil) (ss_cons (ss_if (st_val (v_isx1 h c 0 g.b_isinstance (v_cls h (g.es.g "NoPage" (by decide))) hcv_ref (g.es.is1 (by decide)))) (ss_one (ss_expr (se_append (v_var h 1) se_str))) ss_nil) (ss_cons (ss_if (st_val (v_isx1 h c 0 g.b_isinstance (v_cls h (g.es.g "NoPaper" (by decide))) hcv_ref (g.es.is1 (by decide)))) (ss_one (ss_expr (se_append (v_var h 1) se_str))) ss_nil) (ss_cons (ss_if (st_val (v_isx1 h c 0 g.b_isinstance (v_cls h (g.es.g "NoWorld" (by decide))) hcv_ref (g.es.is1 (by decide)))) (ss_one (ss_expr (se_append (v_var h 1) se_str))) ss_nil) (ss_cons (ss_if (st_val (v_isx1 h c 0 g.b_isinstance (v_cls h (g.es.g "NoBack" (by decide))) hcv_ref (g.es.is1 (by decide)))) (ss_one (ss_expr (se_append (v_var h 1) se_str))) ss_nil) (ss_cons (ss_if (st_val (v_isx1 h c 0 g.b_isinstance (v_cls h (g.es.g "NoText" (by decide))) hcv_ref (g.es.is1 (by decide)))) (ss_one (ss_expr (se_append (v_var h 1) se_str))) ss_nil) (ss_cons (ss_if (st_val (v_isx1 h c 0 g.b_isinstance (v_cls h (g.es.g "NoLine" (by decide))) hcv_ref (g.es.is1 (by decide)))) (ss_one (ss_expr (se_append (v_var h 1) se_str))) ss_nil) (ss_one (ss_ret (v_var h 1)))))))))))))
theorem sc_law_right : FnScope N_law_right ps_law_right (defScope (top 20)) := ⟨rfl, rfl, rfl, by decide +kernel, rfl, by decide +kernel, by decide +kernel⟩
theorem d_law_right (g : G P w K mg) : DoesN P w K mg base 15 "_law_right" ps_law_right m_law_right := doesN (k := 14) g.f_law_right sc_law_right fun X Z h t c => (ss_cons (v_set h 3 se_non) (ss_cons (v_set h 4 se_non) (ss_cons (v_try h t c 5 _ (Or.inl g.es.gb) g.es.ex (fun X Z h t c => (ss_one (ss_expr (v_call h c (d_law_raise g) (by omega) (sa_cons (v_var h 0) (sa_cons (v_var h 1) (sa_cons (v_var h 2) sa_nil))))))) (fun X p h t c => (ss_cons (v_set h 3 (v_callX h c (dh_law_words_of g) (by omega) (x_exn h 5 sx_nil))) (ss_one (ss_if (st_bool (sw_and (z_eq c.hu (v_var h 3) (se_lst (sa_cons (v_var h 0) sa_nil))) (sw_and1 (st_val (v_isx1 h c 5 g.b_isinstance (v_ty h g.b_ValueError bt_ValueError) hcv_ty g.es.isV))))) (ss_cons (ss_expr (v_callH h c (dh_law_grow g 12) (by omega) (sa_cons (v_var h 1) sa_nil))) (ss_cons (ss_expr (v_callH h c (dh_law_grow g 12) (by omega) (sa_cons (v_var h 2) sa_nil))) (ss_one (v_set h 4 (v_callX h c (dh_law_fields g) (by omega) (sx_cons (v_var h 0) (x_exn h 5 sx_nil))))))) ss_nil))))) (ss_cons (v_set h 6 (se_if (z_in c.hu (v_var h 0) (se_tup (sa_cons se_str (sa_cons se_str (sa_cons se_str sa_nil))))) (se_lst (sa_cons (v_var h 1) (sa_cons (v_var h 2) sa_nil))) (se_lst (sa_cons (v_var h 1) sa_nil)))) (ss_cons (ss_if (z_eq c.hu (v_var h 0) se_str) (ss_one (v_set h 6 (se_lst sa_nil))) ss_nil) (ss_one (ss_ret (se_and (v_eq c.hu (v_var h 3) (se_lst (sa_cons (v_var h 0) sa_nil))) (se_one (v_call h c (d_law_same g 12) (by omega) (sa_cons (v_var h 4) (sa_cons (v_var h 6) sa_nil))))))))))))
theorem sc_law_thing : FnScope N_law_thing ps_law_thing (defScope (top 18)) := ⟨rfl, rfl, rfl, by decide +kernel, rfl, by decide +kernel, by decide +kernel⟩
theorem d_law_thing (g : G P w K mg) (n : Nat) : DoesN P w K mg base (3 + n) "_law_thing" ps_law_thing (m_law_thing n) := by
  induction n with
  | zero => exact doesNo g.f_law_thing sc_law_thing
  | succ n D => exact doesN (k := 3 + n) g.f_law_thing sc_law_thing fun X Z h t c => (ss_cons (v_set h 2 (v_call h c (d_law_draw g) (by omega) (sa_cons (v_var h 0) (sa_cons se_int sa_nil)))) (ss_cons (ss_if (st_bool (sw_and (z_lt (v_var h 2) se_int) (sw_and1 (z_gt (v_var h 1) se_int)))) (ss_one (ss_ret (v_lc h c [("_law_k", 4)] (v_range1 h g.b_range (v_call h c (d_law_draw g) (by omega) (sa_cons (v_var h 0) (sa_cons se_int sa_nil)))) (fun X h c => (v_gname h 4)) (fun X h c => sts_nil) (fun X h c => (v_call h c D (Nat.le_refl _) (sa_cons (v_var h 0) (sa_cons (v_sub (v_var h 1) se_int) sa_nil))))))) ss_nil) (ss_cons (ss_if (st_bool (sw_and (z_lt (v_var h 2) se_int) (sw_and1 (z_gt (v_var h 1) se_int)))) (ss_one (ss_ret (v_tuple h g.b_tuple (v_lc h c [("_law_k", 4)] (v_range1 h g.b_range (v_call h c (d_law_draw g) (by omega) (sa_cons (v_var h 0) (sa_cons se_int sa_nil)))) (fun X h c => (v_gname h 4)) (fun X h c => sts_nil) (fun X h c => (v_call h c D (Nat.le_refl _) (sa_cons (v_var h 0) (sa_cons (v_sub (v_var h 1) se_int) sa_nil)))))))) ss_nil) (ss_cons (v_set h 3 (se_lst (sa_cons se_non (sa_cons se_bl (sa_cons se_bl (sa_cons se_str (sa_cons se_str (sa_cons se_str (sa_cons se_int (sa_cons se_int (sa_cons (v_neg se_int) (sa_cons (v_pow se_int se_int) (sa_cons (v_sub se_int (v_pow se_int se_int)) (sa_cons se_str sa_nil)))))))))))))) (ss_one (ss_ret (se_ix (v_var h 3) (v_call h c (d_law_draw g) (by omega) (sa_cons (v_var h 0) (sa_cons se_int sa_nil))))))))))
theorem sclaw : FnScope Nlaw pslaw (defScope (top 21)) := ⟨rfl, rfl, rfl, by decide +kernel, rfl, by decide +kernel, by decide +kernel⟩
theorem blaw_ok (g : G P w K mg) : ∀ X Z, Here P w K mg base Nlaw (defScope (top 21)) (fun _ => true) X → Top X → Ctx X Z 15 → SSs X Z (defBody (top 21)) blaw := fun X Z h t c => (ss_cons (v_set h 1 (v_call h c (d_law_feed g) (by omega) (sa_cons (v_var h 0) sa_nil))) (ss_cons (v_set h 2 (se_lst (sa_cons se_str (sa_cons se_str (sa_cons se_str (sa_cons se_str (sa_cons se_str (sa_cons se_str (sa_cons se_str (sa_cons se_str (sa_cons se_str sa_nil))))))))))) (ss_cons (v_set h 3 (v_call h c (d_law_draw g) (by omega) (sa_cons (v_var h 1) (sa_cons se_int sa_nil)))) (ss_cons (v_for c [4] (si_seq (v_add (v_add (se_sl (v_var h 2) (so_some (v_var h 3)) so_none) (v_var h 2)) (se_sl (v_var h 2) so_none (so_some (v_var h 3))))) (v_gname h 4) (ss_one (ss_if (st_not (st_val (v_call h c (d_law_right g) (by omega) (sa_cons (v_var h 4) (sa_cons (v_call h c (d_law_thing g 12) (by omega) (sa_cons (v_var h 1) (sa_cons se_int sa_nil))) (sa_cons (v_call h c (d_law_thing g 12) (by omega) (sa_cons (v_var h 1) (sa_cons se_int sa_nil))) sa_nil)))))) (ss_one (ss_ret se_bl)) ss_nil))) (ss_one (ss_ret se_bl))))))
end
end K19

set_option Elab.async false
set_option linter.all false
set_option maxRecDepth 100000
set_option maxHeartbeats 4000000
namespace K19
open PySem PySem.Spec PyProof.Rows L2 Ev
theorem lg {i : Int} (h0 : 0 ≤ i) (h : i < 1000000000000000000000000000000) : i.natAbs.log2 < 200 := log2_lt (Nat.lt_of_lt_of_le (m := 1000000000000000000000000000000) (by omega) (by decide))
theorem draw_ok {S : Store} {n c : Nat} {g k many : Int} {cells : List Int} (hf : S[n]? = some (.lst [.int g, .loc c, .int k])) (hc : S[c]? = some (.lst (cells.map .int))) (hl : cells ≠ []) (hm : 0 < many) (hm2 : many < 1000) (hk : 0 ≤ k ∧ k < 1000000) :
    ∃ r g' k', m_law_draw [.loc n, .int many] S = .ok (.w (.int r)) (S.set n (.lst [.int g', .loc c, .int k'])) ∧ 0 ≤ r ∧ r < many ∧ k ≤ k' ∧ k' ≤ k + 1 := by
  have hn : n < S.length := (List.getElem?_eq_some_iff.mp hf).1
  have hm3 : many.natAbs.log2 < 9000 := Nat.lt_trans (lg (by omega) (by omega)) (by decide)
  by_cases hg : 0 < g
  · refine ⟨g % many, g / many, k, ?_, Int.emod_nonneg _ (by omega), Int.emod_lt_of_pos _ hm, Int.le_refl _, by omega⟩
    unfold m_law_draw mdef b_law_draw
    simp [lstOf, contOf, tupOf, seqLOf, atI, ixN, gc_same, s_seq, s_if, t_val, m_op2, m_var, m_c, wIx, wGt, needB, hf, hg, s_set, s_asg, g_sub, wMod, hm, wDiv, s_ret, wSetL, hm3]
  · have hnc : n ≠ c := fun e => by
      subst e
      rw [hf] at hc
      have := congrArg (fun o => match o with | some (LO.lst ws) => ws[1]? | _ => none) hc
      simp only [List.getElem?_map] at this
      cases e : cells[1]? <;> rw [e] at this <;> simp at this
    have hlen : (0 : Int) < (cells.length : Int) := by
      have := List.length_pos_iff.mpr hl
      omega
    have hc2 : (S.set n (.lst [.int g, .loc c, .int (k + 1)]))[c]? = some (.lst (cells.map .int)) := by rw [List.getElem?_set_ne hnc]; exact hc
    obtain ⟨x, hx⟩ : ∃ x, atI (cells.map W.int) ((k + 1) % (cells.length : Int)) = some (.int x) := by
      have e1 := Int.emod_nonneg (k + 1) (by omega : (cells.length : Int) ≠ 0)
      have e2 := Int.emod_lt_of_pos (k + 1) hlen
      unfold atI ixN
      rw [if_pos e1, List.length_map, if_pos e2]
      have e3 : ((k + 1) % (cells.length : Int)).toNat < cells.length := by omega
      exact ⟨cells[((k + 1) % (cells.length : Int)).toNat], by simp [List.getElem?_eq_getElem e3]⟩
    have b1 := Int.emod_nonneg x (by decide : (2147483629 : Int) ≠ 0)
    have b2 := Int.emod_lt_of_pos x (by decide : (0 : Int) < 2147483629)
    generalize hy : x % 2147483629 = y at b1 b2
    have kk : 0 ≤ (k + 1) * (k + 1) := Int.mul_nonneg (by omega) (by omega)
    have m1 : y.natAbs.log2 + (48271 : Int).natAbs.log2 < 1000000 := by
      have := lg b1 (by omega)
      have : (48271 : Int).natAbs.log2 < 200 := by decide
      omega
    have l1 := lg (i := k + 1) (by omega) (by omega)
    have m2 : (7919 : Int).natAbs.log2 + (k + 1).natAbs.log2 < 1000000 := by
      have : (7919 : Int).natAbs.log2 < 200 := by decide
      omega
    have m3 : (7919 * (k + 1)).natAbs.log2 + (k + 1).natAbs.log2 < 1000000 := by
      have := lg (i := 7919 * (k + 1)) (by omega) (by omega)
      omega
    have m4 : (40692 : Int).natAbs.log2 + (k + 1).natAbs.log2 < 1000000 := by
      have : (40692 : Int).natAbs.log2 < 200 := by decide
      omega
    generalize hz : (y * 48271 + 7919 * (k + 1) * (k + 1) + 40692 * (k + 1) + 12345) % 2147483647 = z
    have z1 : 0 ≤ z := by rw [← hz]; exact Int.emod_nonneg _ (by decide)
    have z2 : z < 2147483647 := by rw [← hz]; exact Int.emod_lt_of_pos _ (by decide)
    have m5 : z.natAbs.log2 + (69621 : Int).natAbs.log2 < 1000000 := by
      have := lg z1 (by omega)
      have : (69621 : Int).natAbs.log2 < 200 := by decide
      omega
    generalize hv : (z * 69621 + (k + 1)) % 2147483399 = v
    have v1 : 0 ≤ v := by rw [← hv]; exact Int.emod_nonneg _ (by decide)
    have v2 : v < 2147483399 := by rw [← hv]; exact Int.emod_lt_of_pos _ (by decide)
    have m6 : v.natAbs.log2 + (16807 : Int).natAbs.log2 < 1000000 := by
      have := lg v1 (by omega)
      have : (16807 : Int).natAbs.log2 < 200 := by decide
      omega
    refine ⟨v * 16807 % 2147483563 % many, g, k + 1, ?_, Int.emod_nonneg _ (by omega), Int.emod_lt_of_pos _ hm, by omega, by omega⟩
    have hlen2 : 0 < cells.length := by omega
    have hs : ∀ o, (S.set n o)[n]? = some o := fun o => by simp [hn]
    clear hn
    unfold m_law_draw mdef b_law_draw
    simp [s_seq, s_if, t_val, m_op2, m_var, m_c, s_set, s_asg, g_sub, s_ret, m_b1, s_nil, lstOf, contOf, tupOf, seqLOf, hf, wIx, wGt, needB, hg, hs, hc2, fLen, wSetL, hm, ixN, wMod_int hlen, hx, hy, wMul_int m1, wMul_int m2, wMul_int m3, wMul_int m4, wMul_int m5, wMul_int m6, hz, hv, gc_same]
end K19

set_option Elab.async false
set_option linter.all false
set_option maxRecDepth 100000
set_option maxHeartbeats 4000000
namespace K19
open PySem PySem.Spec PyProof.Rows L2 Ev
def absW : W → W
  | .int i => .int (if i < 0 then -i else i)
  | w => w
theorem feed_ok (ns : List Int) (h : ns.length ≤ 63) : ∃ g cells, cells ≠ [] ∧ m_law_feed [.rol (ns.map .int)] [] = .ok (.l [.int g, .loc 0, .int 0]) [.lst (cells.map .int)] := by
  obtain ⟨c, hcut, hclen⟩ : ∃ c : List Int, cutW (ns.map W.int) none (some 63) = c.map .int ∧ c.length ≤ 63 := by
    unfold cutW
    refine ⟨((ns.drop _).take _), by rw [List.map_take, List.map_drop], ?_⟩
    simp only [List.length_take, List.length_drop]
    omega
  have hsz : sizeLine = 16777216 := rfl
  have hlc : ∀ ρ : Rho, lcL (g_name 3) t_yes (m_b1 fAbs (m_var 3)) (fun _ => True) (wipeR [3] [some (.rol (ns.map .int)), none, none, none]) (c.map .int) [] = .ok ((c.map W.int).map absW) [] := fun ρ => by
    refine lcL_map absW trivial _ fun w hw => ?_
    obtain ⟨i, _, rfl⟩ := List.mem_map.mp hw
    simp [m_b1, m_var, wipeR, fAbs, absW]
  let cells : List Int := c.map (fun i => if i < 0 then -i else i) ++ [0]
  have hcells : (c.map W.int).map absW ++ [.int 0] = cells.map .int := by simp [cells, absW]
  have hne : cells ≠ [] := by simp [cells]
  have hset : m_op2 wAdd (m_lc (i_seq (m_sl (m_var 0) (o_none) (o_some (m_c (.int 63))))) [3] (g_name 3) (t_yes) (m_b1 fAbs (m_var 3))) (m_lst (m_cons (m_c (.int 0)) (m_nil))) [some (.rol (ns.map .int)), none, none, none] [] = .ok (.l (cells.map .int)) [] := by
    have e1 : i_seq (m_sl (m_var 0) (o_none) (o_some (m_c (.int 63)))) [some (.rol (ns.map .int)), none, none, none] [] = .ok ⟨c.map .int, fun _ => True⟩ [] := by
      refine i_seq_ok (t := .l (c.map .int)) ?_ rfl
      simp [m_sl, m_var, o_none, o_some, m_c, wSl, seqLOf, hcut]
    unfold m_op2 m_lc
    rw [e1]
    simp only [R.ok_bind]
    rw [if_pos (by rw [List.length_map]; omega), hlc []]
    simp only [R.ok_bind, m_lst, m_cons, m_c, m_nil, settle_w, List.length_cons, List.length_nil]
    rw [if_pos (by omega)]
    simp only [R.ok_bind, wAdd, lstOf]
    rw [if_pos (by simp; omega), hcells]
  have key : ∃ g, b_law_feed [some (.rol (ns.map .int)), none, none, none] [] = .ret (.l [.int g, .loc 0, .int 0]) [.lst (cells.map .int)] := by
    unfold b_law_feed
    simp only [s_seq, s_set, hset, R.ok_thenS, settle_l, List.length_nil, List.nil_append, RS.next_seq]
    obtain ⟨x, r, hx⟩ : ∃ x r, cells = x :: r := List.exists_cons_of_ne_nil hne
    by_cases hb : (1000000000000000000 : Int) ≤ x
    · refine ⟨x, ?_⟩
      simp [s_seq, s_if, t_val, m_op2, m_var, m_c, wIx, contOf, tupOf, seqLOf, lstOf, hx, wPow, hb, s_set, s_ret, m_lst, m_cons, m_nil, hsz]
    · refine ⟨0, ?_⟩
      simp [s_seq, s_if, t_val, m_op2, m_var, m_c, wIx, contOf, tupOf, seqLOf, lstOf, hx, wPow, hb, s_set, s_ret, m_lst, m_cons, m_nil, hsz, s_nil]
  obtain ⟨g, hg⟩ := key
  refine ⟨g, cells, hne, ?_⟩
  unfold m_law_feed mdef
  show (match b_law_feed [some (.rol (ns.map .int)), none, none, none] [] with | .ret t S' => gc [] t S' | .next _ S' => gc [] (.w .non) S' | .exc c ns ws _ S' => gcx [] c ns ws S' | _ => .no) = _
  rw [hg]
  rcases gc_or (S := []) (t := .l [.int g, .loc 0, .int 0]) (S' := [.lst (cells.map .int)]) with e | ⟨_, _, e⟩
  · exact e
  · simp [T.open, T.lb, W.lbs, W.lb] at e
/-! ### things -/
/-- a thing of depth d, its lists at places from L on, of at most B items -/
def Th : Nat → Nat → (Nat → Prop) → Store → W → Prop
  | _, _, _, _, .non => True
  | _, _, _, _, .bl _ => True
  | _, _, _, _, .int _ => True
  | _, _, _, _, .str x => PyData.canLay0 (.str x) = true
  | d + 1, B, L, S, .tup ws => ws.length ≤ B ∧ ∀ w ∈ ws, Th d B L S w
  | d + 1, B, L, S, .loc m => L m ∧ ∃ ws, S[m]? = some (.lst ws) ∧ ws.length ≤ B ∧ ∀ w ∈ ws, Th d B L S w
  | _, _, _, _, _ => False
/-- lists from L on have grown by at most a sevens -/
def Gw (L : Nat → Prop) (a : Nat) (S S' : Store) : Prop := S'.length = S.length ∧ (∀ m : Nat, ¬ L m → S'[m]? = S[m]?) ∧ ∀ (m : Nat) (ws : List W), S[m]? = some (.lst ws) → ∃ j, j ≤ a ∧ S'[m]? = some (.lst (ws ++ List.replicate j (.int 7)))
theorem Gw.refl {L : Nat → Prop} {a : Nat} {S : Store} : Gw L a S S := ⟨rfl, fun _ _ => rfl, fun m ws h => ⟨0, Nat.zero_le _, by simpa using h⟩⟩
theorem Gw.trans {L : Nat → Prop} {a b : Nat} {S S1 S2 : Store} (h : Gw L a S S1) (h2 : Gw L b S1 S2) : Gw L (a + b) S S2 := by
  refine ⟨h2.1.trans h.1, fun m hm => (h2.2.1 m hm).trans (h.2.1 m hm), fun m ws e => ?_⟩
  obtain ⟨j, hj, e1⟩ := h.2.2 m ws e
  obtain ⟨i, hi, e2⟩ := h2.2.2 m _ e1
  exact ⟨j + i, by omega, by rw [e2, List.append_assoc, List.replicate_append_replicate]⟩
theorem Gw.mono {L : Nat → Prop} {a b : Nat} {S S' : Store} (h : Gw L a S S') (hab : a ≤ b) : Gw L b S S' := ⟨h.1, h.2.1, fun m ws e => by
  obtain ⟨j, hj, e1⟩ := h.2.2 m ws e
  exact ⟨j, by omega, e1⟩⟩
theorem Th.sc {d B : Nat} {L : Nat → Prop} {S S' : Store} {w : W} (h : Th 0 B L S w) : Th d B L S' w := by
  cases w <;> cases d <;> first | exact h | trivial | (cases h; done)
theorem Th.grow {L : Nat → Prop} {a : Nat} {S S' : Store} (h : Gw L a S S') : ∀ {d B : Nat} {w : W}, Th d B L S w → Th d (B + a) L S' w
  | d, B, .non, _ => by cases d <;> trivial
  | d, B, .bl _, _ => by cases d <;> trivial
  | d, B, .int _, _ => by cases d <;> trivial
  | d, B, .str _, q => by cases d <;> exact q
  | d + 1, B, .tup ws, q => ⟨by have := q.1; omega, fun w hw => Th.grow h (q.2 w hw)⟩
  | d + 1, B, .loc m, q => by
    obtain ⟨q0, ws, q1, q2, q3⟩ := q
    obtain ⟨j, hj, e⟩ := h.2.2 m ws q1
    refine ⟨q0, _, e, by simp; omega, fun w hw => ?_⟩
    rcases List.mem_append.mp hw with hw | hw
    · exact Th.grow h (q3 w hw)
    · rw [List.eq_of_mem_replicate hw]
      cases d <;> trivial
  | 0, _, .tup _, q => by cases q
  | 0, _, .loc _, q => by cases q
  | d, B, .rol _, q => by cases d <;> exact False.elim q
  | d, B, .exn _ _ _, q => by cases d <;> exact False.elim q
theorem Th.stay {L : Nat → Prop} {S S' : Store} (h : ∀ (m : Nat) (ws : List W), L m → S[m]? = some (.lst ws) → S'[m]? = some (.lst ws)) : ∀ {d B : Nat} {w : W}, Th d B L S w → Th d B L S' w
  | d, B, .non, _ => by cases d <;> trivial
  | d, B, .bl _, _ => by cases d <;> trivial
  | d, B, .int _, _ => by cases d <;> trivial
  | d, B, .str _, q => by cases d <;> exact q
  | d + 1, B, .tup ws, q => ⟨q.1, fun w hw => Th.stay h (q.2 w hw)⟩
  | d + 1, B, .loc m, q => by
    obtain ⟨q0, ws, q1, q2, q3⟩ := q
    exact ⟨q0, ws, h m ws q0 q1, q2, fun w hw => Th.stay h (q3 w hw)⟩
  | 0, _, .tup _, q => by cases q
  | 0, _, .loc _, q => by cases q
  | d, B, .rol _, q => by cases d <;> exact False.elim q
  | d, B, .exn _ _ _, q => by cases d <;> exact False.elim q
theorem Th.up {L L' : Nat → Prop} {S : Store} (hl : ∀ m, L' m → L m) : ∀ {d B B' : Nat} {w : W}, B ≤ B' → Th d B L' S w → Th d B' L S w
  | d, B, B', .non, _, _ => by cases d <;> trivial
  | d, B, B', .bl _, _, _ => by cases d <;> trivial
  | d, B, B', .int _, _, _ => by cases d <;> trivial
  | d, B, B', .str _, _, q => by cases d <;> exact q
  | d + 1, B, B', .tup ws, hb, q => ⟨Nat.le_trans q.1 hb, fun w hw => Th.up hl hb (q.2 w hw)⟩
  | d + 1, B, B', .loc m, hb, q => by
    obtain ⟨q0, ws, q1, q2, q3⟩ := q
    exact ⟨hl m q0, ws, q1, Nat.le_trans q2 hb, fun w hw => Th.up hl hb (q3 w hw)⟩
  | 0, _, _, .tup _, _, q => by cases q
  | 0, _, _, .loc _, _, q => by cases q
  | d, B, B', .rol _, _, q => by cases d <;> exact False.elim q
  | d, B, B', .exn _ _ _, _, q => by cases d <;> exact False.elim q
/-- what names no place from L on needs no store -/
theorem Th.lb {n : Nat} {L : Nat → Prop} {S S' : Store} (hn : ∀ m, L m → n ≤ m) : ∀ {d B : Nat} {w : W}, Th d B L S w → w.lb n = true → Th d B L S' w
  | d, B, .non, _, _ => by cases d <;> trivial
  | d, B, .bl _, _, _ => by cases d <;> trivial
  | d, B, .int _, _, _ => by cases d <;> trivial
  | d, B, .str _, q, _ => by cases d <;> exact q
  | d + 1, B, .tup ws, q, e => ⟨q.1, fun w hw => Th.lb hn (q.2 w hw) (lbs_mem (show W.lbs n ws = true from e) hw)⟩
  | d + 1, B, .loc m, q, e => by
    have e : decide (m < n) = true := e
    have := of_decide_eq_true e
    have := hn m q.1
    omega
  | 0, _, .tup _, q, _ => by cases q
  | 0, _, .loc _, q, _ => by cases q
  | d, B, .rol _, q, _ => by cases d <;> exact False.elim q
  | d, B, .exn _ _ _, q, _ => by cases d <;> exact False.elim q
abbrev ge (L : Nat) : Nat → Prop := fun m => L ≤ m
theorem Th.bd {L : Nat → Prop} {S : Store} : ∀ {d B : Nat} {w : W}, Th d B L S w → Th d B (fun m => L m ∧ m < S.length) S w
  | d, B, .non, _ => by cases d <;> trivial
  | d, B, .bl _, _ => by cases d <;> trivial
  | d, B, .int _, _ => by cases d <;> trivial
  | d, B, .str _, q => by cases d <;> exact q
  | d + 1, B, .tup ws, q => ⟨q.1, fun w hw => Th.bd (q.2 w hw)⟩
  | d + 1, B, .loc m, q => by
    obtain ⟨q0, ws, q1, q2, q3⟩ := q
    exact ⟨⟨q0, (List.getElem?_eq_some_iff.mp q1).1⟩, ws, q1, q2, fun w hw => Th.bd (q3 w hw)⟩
  | 0, _, .tup _, q => by cases q
  | 0, _, .loc _, q => by cases q
  | d, B, .rol _, q => by cases d <;> exact False.elim q
  | d, B, .exn _ _ _, q => by cases d <;> exact False.elim q
end K19

set_option Elab.async false
set_option linter.all false
set_option maxRecDepth 100000
set_option maxHeartbeats 4000000
namespace K19
open PySem PySem.Spec PyProof.Rows L2 Ev
theorem bls_true {α : Type} (l : List α) : blsOf (l.map fun _ => W.bl true) = some (l.map fun _ => true) := by
  induction l with
  | nil => rfl
  | cons a r ih => simp [blsOf, ih]
theorem same_seq {f : Nat} {S : Store} {w v : W} {ws vs : List W} {n : String} (hn : n = "tuple" ∨ n = "list") (t1 : tyN (.w w) S = some n) (t2 : tyN (.w v) S = some n) (c1 : contOf (.w w) S = some ws) (c2 : contOf (.w v) S = some vs)
    (x1 : w.isX = false) (x2 : v.isX = false) (hl : ws.length = vs.length) (hb : vs.length ≤ 1000) (h : ∀ (k : Nat) a b, ws[k]? = some a → vs[k]? = some b → m_law_same f [a, b] S = .ok (.w (.bl true)) S) :
    m_law_same (f + 1) [w, v] S = .ok (.w (.bl true)) S := by
  have s1 : ∀ z, (T.w w) ≠ .w (.str z) := fun z e => by rw [e] at c1; cases c1
  have s2 : ∀ z, (T.w v) ≠ .w (.str z) := fun z e => by rw [e] at c2; cases c2
  have l1 : fLen (.w w) S = .ok (.w (.int ws.length)) S := by
    unfold fLen
    cases w with
    | str z => exact absurd rfl (s1 z)
    | _ => simp only [c1]
  have l2 : fLen (.w v) S = .ok (.w (.int vs.length)) S := by
    unfold fLen
    cases v with
    | str z => exact absurd rfl (s2 z)
    | _ => simp only [c2]
  have hlc : ∀ b : Bool, lcL (g_name 3) t_yes (m_call 2 (m_law_same f) (m_cons (m_op2 wIx (m_var 0) (m_var 3)) (m_cons (m_op2 wIx (m_var 1) (m_var 3)) m_nil))) (fun _ => True) (wipeR [3] [some w, some v, some (.bl b), none]) (rangeW 0 vs.length) S = .ok ((rangeW 0 vs.length).map fun _ => .bl true) S := fun b => by
    refine lcL_map _ trivial _ fun x hx => ?_
    obtain ⟨k, rfl, hk⟩ := rangeW_mem hx
    have hk1 : k < vs.length := by omega
    have hk2 : k < ws.length := by omega
    have e1 := wIx_of s1 c1 (atI_nn (List.getElem?_eq_getElem hk2))
    have e2 := wIx_of s2 c2 (atI_nn (List.getElem?_eq_getElem hk1))
    have e3 := h k _ _ (List.getElem?_eq_getElem hk2) (List.getElem?_eq_getElem hk1)
    simp [m_call, m_cons, m_op2, m_nil, x1, x2, e1, e2, e3]
  have hrw : (rangeW 0 (vs.length : Int)).length ≤ sizeLine := le_size (by rw [rangeW_len]; omega)
  have hv : vs.length ≤ 1000 := hb
  have hm : ∀ b : Bool, m_lc (i_range1 (m_b1 fLen (m_var 1))) [3] (g_name 3) (t_yes) (m_call 2 (m_law_same f) (m_cons (m_op2 wIx (m_var 0) (m_var 3)) (m_cons (m_op2 wIx (m_var 1) (m_var 3)) (m_nil)))) [some w, some v, some (.bl b), none] S = .ok (.l ((rangeW 0 vs.length).map fun _ => .bl true)) S := fun b =>
    m_lc_ok (i_range1_ok (by simp [m_b1, x2, l2]) (by omega) (by omega)) hrw (hlc b)
  have ha : fAll (.l ((rangeW 0 (vs.length : Int)).map fun _ => .bl true)) S = .ok (.w (.bl true)) S := by
    unfold fAll
    simp only [seqLOf, lstOf, Option.bind_some, bls_true]
    simp
  have key : b_law_same (m_law_same f) [some w, some v, none, none] S = .ret (.w (.bl true)) S := by
    unfold b_law_same
    rcases hn with rfl | rfl
    · simp [s_seq, s_if, t_val, m_isi, x1, x2, t1, t2, isSub, s_set, m_if, t_or, t_not, m_op2, m_b1, l1, l2, hl, s_nil, s_ret]
      rw [hm true]
      simp [ha]
    · simp [s_seq, s_if, t_val, m_isi, x1, x2, t1, t2, isSub, s_set, m_if, t_or, t_not, m_op2, m_b1, l1, l2, hl, s_nil, s_ret]
      rw [hm true]
      simp [ha]
  show mdef 4 (b_law_same (m_law_same f)) [w, v] S = _
  unfold mdef
  show (match b_law_same (m_law_same f) [some w, some v, none, none] S with | .ret t S' => gc S t S' | .next _ S' => gc S (.w .non) S' | .exc c ns ws _ S' => gcx S c ns ws S' | _ => .no) = _
  rw [key]
  exact gc_same rfl
theorem Th.nx {d B : Nat} {L : Nat → Prop} {S : Store} {w : W} (h : Th d B L S w) : w.isX = false := by
  cases w <;> first | rfl | (cases d <;> exact False.elim h)
theorem same_sc {L : Nat → Prop} {B f : Nat} {S : Store} {w : W} (h : Th 0 B L S w) : m_law_same (f + 1) [w, w] S = .ok (.w (.bl true)) S := by
  show mdef 4 (b_law_same (m_law_same f)) [w, w] S = _
  unfold mdef b_law_same
  cases w with
  | non => simp [s_seq, s_if, t_val, m_isi, m_var, tyN, isSub, s_nil, s_ret, m_op2, m_c, T.isNon, gc_same]
  | bl b => simp [s_seq, s_if, t_val, m_isi, m_var, tyN, isSub, s_nil, s_ret, m_op2, m_c, T.isNon, gc_same, m_and, asB]
  | int b => simp [s_seq, s_if, t_val, m_isi, m_var, tyN, isSub, s_nil, s_ret, m_op2, m_c, T.isNon, gc_same, m_and, m_not, asB]
  | str b => simp [s_seq, s_if, t_val, m_isi, m_var, tyN, isSub, s_nil, s_ret, m_op2, m_c, T.isNon, gc_same, m_and, asB, wEq_str h h]
  | _ => exact False.elim h
theorem same_ok {B : Nat} {L : Nat → Prop} {S : Store} (hB : B ≤ 1000) : ∀ {d f : Nat} {w : W}, d < f → Th d B L S w → m_law_same f [w, w] S = .ok (.w (.bl true)) S := by
  intro d
  induction d with
  | zero =>
    intro f w hf h
    obtain ⟨f, rfl⟩ : ∃ g, f = g + 1 := ⟨f - 1, by omega⟩
    exact same_sc h
  | succ d ih =>
    intro f w hf h
    obtain ⟨f, rfl⟩ : ∃ g, f = g + 1 := ⟨f - 1, by omega⟩
    cases w with
    | non => exact same_sc (L := L) (B := B) (S := S) (w := .non) trivial
    | bl b => exact same_sc (L := L) (B := B) (S := S) (w := .bl b) trivial
    | int b => exact same_sc (L := L) (B := B) (S := S) (w := .int b) trivial
    | str b => exact same_sc (L := L) (B := B) (S := S) (w := .str b) h
    | tup ws =>
      refine same_seq (n := "tuple") (.inl rfl) rfl rfl rfl rfl rfl rfl rfl (Nat.le_trans h.1 hB) fun k a b ha hb => ?_
      rw [ha] at hb; cases hb
      exact ih (by omega) (h.2 _ (List.mem_of_getElem? ha))
    | loc m =>
      obtain ⟨q0, ws, q1, q2, q3⟩ := h
      have c : contOf (.w (.loc m)) S = some ws := by simp [contOf, tupOf, seqLOf, lstOf, q1]
      refine same_seq (n := "list") (.inr rfl) (by simp [tyN, q1]) (by simp [tyN, q1]) c c rfl rfl rfl (Nat.le_trans q2 hB) fun k a b ha hb => ?_
      rw [ha] at hb; cases hb
      exact ih (by omega) (q3 _ (List.mem_of_getElem? ha))
    | rol _ => exact False.elim h
    | exn _ _ _ => exact False.elim h
/-! ### grow -/
def lpA (f : Nat → Nat) (B : Nat) : Nat → Nat → Nat
  | 0, a => a
  | n + 1, a => lpA f B n (a + f (B + a))
theorem lpA_ge {f : Nat → Nat} {B : Nat} : ∀ {n a : Nat}, a ≤ lpA f B n a
  | 0, a => Nat.le_refl _
  | n + 1, a => Nat.le_trans (Nat.le_add_right _ _) (lpA_ge (n := n))
def A : Nat → Nat → Nat
  | 0, _ => 0
  | d + 1, B => ((List.range (B + 1)).foldr (fun n m => max (lpA (A d) B n 0) m) 0) + 1
theorem fold_le {g : Nat → Nat} {n : Nat} : ∀ {l : List Nat}, n ∈ l → g n ≤ l.foldr (fun n m => max (g n) m) 0
  | x :: r, h => by
    simp only [List.foldr_cons]
    rcases List.mem_cons.mp h with rfl | h
    · exact Nat.le_max_left _ _
    · exact Nat.le_trans (fold_le h) (Nat.le_max_right _ _)
theorem lpA_A {d B n : Nat} (h : n ≤ B) : lpA (A d) B n 0 + 1 ≤ A (d + 1) B := by
  show _ ≤ ((List.range (B + 1)).foldr (fun n m => max (lpA (A d) B n 0) m) 0) + 1
  have := fold_le (g := fun n => lpA (A d) B n 0) (n := n) (l := List.range (B + 1)) (List.mem_range.mpr (by omega))
  omega
theorem grow_sc {L : Nat → Prop} {B f : Nat} {S : Store} {w : W} (h : Th 0 B L S w) : m_law_grow (f + 1) [w] S = .ok (.w .non) S := by
  show mdef 2 (b_law_grow (m_law_grow f)) [w] S = _
  unfold mdef b_law_grow
  cases w <;> first
    | exact False.elim h
    | simp [s_seq, s_if, t_val, m_isi, m_var, tyN, isSub, s_nil, gc_same]
/-- the walk over the children -/
theorem grow_kids {L : Nat → Prop} {B d f : Nat} {S : Store} {w : W} {ws : List W} (hx : w.isX = false) (c : contOf (.w w) S = some ws) (hl : ws.length ≤ B) (hk : ∀ x ∈ ws, Th d B L S x)
    (ih : ∀ (B : Nat) (S : Store) (x : W), Th d B L S x → B + A d B ≤ 1000 → ∃ S', m_law_grow f [x] S = .ok (.w .non) S' ∧ Gw L (A d B) S S') (hB : B + A (d + 1) B ≤ 1000) :
    ∃ S', s_for (i_lst (m_b1 fList (m_var 0))) (g_name 1) [1] (s_expr (m_call 1 (m_law_grow f) (m_cons (m_var 1) (m_nil)))) [some w, none] S = .next [some w, none] S' ∧ Gw L (lpA (A d) B ws.length 0) S S' := by
  have hT := lpA_A (d := d) hl
  generalize hT' : lpA (A d) B ws.length 0 = T at hT ⊢
  have e1 : i_lst (m_b1 fList (m_var 0)) [some w, none] S = .ok ⟨ws, fun _ => True⟩ S := by
    simp [i_lst, m_b1, hx, fList, c, itemsOf]
  obtain ⟨ρ', S', h1, h2⟩ := forL_inv (g := g_name 1) (clr := [1]) (body := s_expr (m_call 1 (m_law_grow f) (m_cons (m_var 1) (m_nil)))) (chk := fun _ => True)
    (fun rest ρ S1 => ∃ y a, ρ = [some w, y] ∧ (∀ x ∈ rest, Th d B L S x) ∧ Gw L a S S1 ∧ lpA (A d) B rest.length a ≤ T) (fun _ _ _ _ => trivial)
    (fun x rest ρ S1 ⟨y, a, e, hr, hg, hle⟩ => by
      subst e
      have hx2 := hr x (by simp)
      have hge := lpA_ge (f := A d) (B := B) (n := rest.length) (a := a + A d (B + a))
      have hle' : lpA (A d) B rest.length (a + A d (B + a)) ≤ T := hle
      obtain ⟨S2, e2, g2⟩ := ih (B + a) S1 x (Th.grow hg hx2) (by omega)
      refine ⟨[some w, some x], S1, [some w, some x], S2, by simp [g_name], .inl ?_, some x, a + A d (B + a), rfl, fun z hz => hr z (by simp [hz]), hg.trans g2, hle'⟩
      simp [s_expr, m_call, m_cons, m_nil, Th.nx hx2, e2])
    ws [some w, none] S ⟨none, 0, rfl, hk, Gw.refl, by rw [hT']; exact Nat.le_refl _⟩
  obtain ⟨y, a, rfl, _, hg, hle⟩ := h2
  refine ⟨S', ?_, hg.mono hle⟩
  unfold s_for
  rw [e1, R.ok_thenS]
  simp only
  rw [h1]
  simp
theorem grow_ok {L : Nat → Prop} : ∀ {d f B : Nat} {S : Store} {w : W}, d < f → Th d B L S w → B + A d B ≤ 1000 → ∃ S', m_law_grow f [w] S = .ok (.w .non) S' ∧ Gw L (A d B) S S' := by
  intro d
  induction d with
  | zero =>
    intro f B S w hf h hB
    obtain ⟨f, rfl⟩ : ∃ g, f = g + 1 := ⟨f - 1, by omega⟩
    exact ⟨S, grow_sc h, Gw.refl⟩
  | succ d ih =>
    intro f B S w hf h hB
    obtain ⟨f, rfl⟩ : ∃ g, f = g + 1 := ⟨f - 1, by omega⟩
    have ih' : ∀ (B : Nat) (S : Store) (x : W), Th d B L S x → B + A d B ≤ 1000 → ∃ S', m_law_grow f [x] S = .ok (.w .non) S' ∧ Gw L (A d B) S S' := fun B S x h hb => ih (by omega) h hb
    cases w with
    | non => exact ⟨S, grow_sc (L := L) (B := B) (S := S) (w := .non) trivial, Gw.refl⟩
    | bl b => exact ⟨S, grow_sc (L := L) (B := B) (S := S) (w := .bl b) trivial, Gw.refl⟩
    | int b => exact ⟨S, grow_sc (L := L) (B := B) (S := S) (w := .int b) trivial, Gw.refl⟩
    | str b => exact ⟨S, grow_sc (L := L) (B := B) (S := S) (w := .str b) h, Gw.refl⟩
    | rol _ => exact False.elim h
    | exn _ _ _ => exact False.elim h
    | tup ws =>
      obtain ⟨S', e, g⟩ := grow_kids (f := f) (w := .tup ws) rfl rfl h.1 h.2 ih' hB
      have hT := lpA_A (d := d) h.1
      refine ⟨S', ?_, g.mono (by omega)⟩
      show mdef 2 (b_law_grow (m_law_grow f)) [.tup ws] S = _
      unfold mdef b_law_grow
      have e' : (s_seq (s_if (t_val (m_isi (m_var 0) ["list", "tuple"])) (s_for (i_lst (m_b1 fList (m_var 0))) (g_name 1) [1] (s_expr (m_call 1 (m_law_grow f) (m_cons (m_var 1) (m_nil))))) (s_nil)) (s_if (t_val (m_isi (m_var 0) ["list"])) (s_expr (m_append (m_var 0) (m_c (.int 7)))) (s_nil))) [some (.tup ws), none] S = .next [some (.tup ws), none] S' := by
        simp [s_seq, s_if, t_val, m_isi, m_var, tyN, isSub, s_nil, e]
      show (match (s_seq _ _) [some (.tup ws), none] S with | .ret t S' => gc S t S' | .next _ S' => gc S (.w .non) S' | .exc c ns ws _ S' => gcx S c ns ws S' | _ => .no) = _
      rw [e']
      exact gc_same g.1
    | loc m =>
      obtain ⟨q0, ws, q1, q2, q3⟩ := h
      have c : contOf (.w (.loc m)) S = some ws := by simp [contOf, tupOf, seqLOf, lstOf, q1]
      obtain ⟨S', e, g⟩ := grow_kids (f := f) (w := .loc m) rfl c q2 q3 ih' hB
      have hT := lpA_A (d := d) q2
      obtain ⟨j, hj, e1⟩ := g.2.2 m ws q1
      have hm : m < S'.length := (List.getElem?_eq_some_iff.mp e1).1
      have hsz : (ws ++ List.replicate j (W.int 7)).length < sizeLine := by
        have := le_size (n := 1000000) (by omega)
        simp
        omega
      have gg : Gw L (A (d + 1) B) S (S'.set m (.lst (ws ++ List.replicate j (.int 7) ++ [.int 7]))) := by
        refine Gw.mono (Gw.trans (b := 1) g ⟨by simp, fun i hi => ?_, fun i us hu => ?_⟩) hT
        · rw [List.getElem?_set_ne (fun e => hi (by rw [← e]; exact q0))]
        · by_cases hmi : m = i
          · subst hmi
            rw [e1] at hu; cases hu
            exact ⟨1, Nat.le_refl _, by simp [hm]⟩
          · exact ⟨0, by omega, by rw [List.getElem?_set_ne hmi, hu]; simp⟩
      refine ⟨_, ?_, gg⟩
      show mdef 2 (b_law_grow (m_law_grow f)) [.loc m] S = _
      unfold mdef b_law_grow
      have e' : (s_seq (s_if (t_val (m_isi (m_var 0) ["list", "tuple"])) (s_for (i_lst (m_b1 fList (m_var 0))) (g_name 1) [1] (s_expr (m_call 1 (m_law_grow f) (m_cons (m_var 1) (m_nil))))) (s_nil)) (s_if (t_val (m_isi (m_var 0) ["list"])) (s_expr (m_append (m_var 0) (m_c (.int 7)))) (s_nil))) [some (.loc m), none] S = .next [some (.loc m), none] (S'.set m (.lst (ws ++ List.replicate j (.int 7) ++ [.int 7]))) := by
        simp only [s_seq, s_if, t_val, m_isi, mv0 isX_loc, R.ok_bind, tyN, q1, e1, List.any_cons, isSub]
        simp only [e, needB_bl]
        simp [e]
        simp [s_if, t_val, m_isi, e1, tyN, isSub, s_expr, m_append, isLst, m_c, wAppend]
        rw [if_pos (by simpa using hsz)]
        rfl
      show (match (s_seq _ _) [some (.loc m), none] S with | .ret t S' => gc S t S' | .next _ S' => gc S (.w .non) S' | .exc c ns ws _ S' => gcx S c ns ws S' | _ => .no) = _
      rw [e']
      exact gc_same gg.1
end K19

set_option Elab.async false
set_option linter.all false
set_option maxRecDepth 100000
set_option maxHeartbeats 4000000
namespace K19
open PySem PySem.Spec PyProof.Rows L2 Ev
/-- the feed at n, its cells at c, k draws so far (at most) -/
def Fd (S : Store) (n c k : Nat) : Prop := ∃ (g : Int) (j : Nat) (cells : List Int), S[n]? = some (.lst [.int g, .loc c, .int j]) ∧ S[c]? = some (.lst (cells.map .int)) ∧ cells ≠ [] ∧ j ≤ k
/-- only the feed has changed, new places have come -/
def Kp (n : Nat) (S S' : Store) : Prop := S.length ≤ S'.length ∧ ∀ m : Nat, m ≠ n → m < S.length → S'[m]? = S[m]?
theorem Kp.refl {n : Nat} {S : Store} : Kp n S S := ⟨Nat.le_refl _, fun _ _ _ => rfl⟩
theorem Kp.trans {n : Nat} {S S1 S2 : Store} (h : Kp n S S1) (h2 : Kp n S1 S2) : Kp n S S2 := ⟨Nat.le_trans h.1 h2.1, fun m hm hl => (h2.2 m hm (Nat.lt_of_lt_of_le hl h.1)).trans (h.2 m hm hl)⟩
theorem Kp.app {n : Nat} {S : Store} {l : List LO} : Kp n S (S ++ l) := ⟨by simp, fun m _ hl => List.getElem?_append_left hl⟩
theorem Fd.app {n c k : Nat} {S : Store} {l : List LO} (h : Fd S n c k) : Fd (S ++ l) n c k := by
  obtain ⟨g, j, cells, h1, h2, h3, h4⟩ := h
  exact ⟨g, j, cells, by rw [List.getElem?_append_left (List.getElem?_eq_some_iff.mp h1).1]; exact h1, by rw [List.getElem?_append_left (List.getElem?_eq_some_iff.mp h2).1]; exact h2, h3, h4⟩
theorem Fd.lt {n c k : Nat} {S : Store} (h : Fd S n c k) : n < S.length ∧ c < S.length := by
  obtain ⟨g, j, cells, h1, h2, h3, h4⟩ := h
  exact ⟨(List.getElem?_eq_some_iff.mp h1).1, (List.getElem?_eq_some_iff.mp h2).1⟩
theorem Fd.cut {n c k l : Nat} {S : Store} (h : Fd S n c k) (hn : n < l) (hc : c < l) : Fd (S.take l) n c k := by
  obtain ⟨g, j, cells, h1, h2, h3, h4⟩ := h
  exact ⟨g, j, cells, by rw [List.getElem?_take_of_lt hn]; exact h1, by rw [List.getElem?_take_of_lt hc]; exact h2, h3, h4⟩
theorem draw_fd {S : Store} {n c k : Nat} {many : Int} (h : Fd S n c k) (hk : k < 1000000) (hm : 0 < many) (hm2 : many < 1000) :
    ∃ (r : Nat) (S' : Store), m_law_draw [.loc n, .int many] S = .ok (.w (.int r)) S' ∧ (r : Int) < many ∧ Fd S' n c (k + 1) ∧ Kp n S S' ∧ S'.length = S.length := by
  obtain ⟨g, j, cells, h1, h2, h3, h4⟩ := h
  have hn := (List.getElem?_eq_some_iff.mp h1).1
  have hnc : n ≠ c := fun e => by
    subst e
    rw [h1] at h2
    have := congrArg (fun o => match o with | some (LO.lst ws) => ws[1]? | _ => none) h2
    simp only [List.getElem?_map] at this
    cases e : cells[1]? <;> rw [e] at this <;> simp at this
  obtain ⟨r, g', k', e, a1, a2, a3, a4⟩ := draw_ok h1 h2 h3 hm hm2 ⟨by omega, by omega⟩
  obtain ⟨r, rfl⟩ := Int.eq_ofNat_of_zero_le a1
  obtain ⟨k', rfl⟩ := Int.eq_ofNat_of_zero_le (Int.le_trans (by omega) a3)
  refine ⟨r, _, e, a2, ⟨g', k', cells, by simp [hn], by rw [List.getElem?_set_ne hnc]; exact h2, h3, by omega⟩, ⟨by simp, fun m hm _ => by rw [List.getElem?_set_ne (Ne.symm hm)]⟩, by simp⟩
/-- what a call tells, settled or not -/
def ThT (d L : Nat) (S : Store) : T → Prop
  | .w w => Th d 2 (ge L) S w
  | .l ws => 0 < d ∧ ws.length ≤ 2 ∧ ∀ w ∈ ws, Th (d - 1) 2 (ge L) S w
theorem Th.kp {n d B L : Nat} {S S' : Store} {w : W} (hn : n < L) (k : Kp n S S') (h : Th d B (ge L) S w) : Th d B (ge L) S' w :=
  Th.stay (fun m ws hm e => by rw [k.2 m (by have hm : L ≤ m := hm; omega) (List.getElem?_eq_some_iff.mp e).1]; exact e) h
/-- a value told is settled -/
theorem settle_th {n c k d L : Nat} {S : Store} {t : T} (h : ThT d L S t) (f : Fd S n c k) (hL : L ≤ S.length) : ∃ x S', settle t S = .ok x S' ∧ Th d 2 (ge L) S' x ∧ Fd S' n c k ∧ Kp n S S' := by
  cases t with
  | w x => exact ⟨x, S, rfl, h, f, Kp.refl⟩
  | l ws =>
    obtain ⟨h0, h1, h2⟩ := h
    obtain ⟨d, rfl⟩ : ∃ e, d = e + 1 := ⟨d - 1, by omega⟩
    refine ⟨.loc S.length, S ++ [.lst ws], rfl, ⟨hL, ws, by simp, h1, fun w hw => ?_⟩, f.app, Kp.app⟩
    exact Th.stay (fun m us hm e => by rw [List.getElem?_append_left (List.getElem?_eq_some_iff.mp e).1]; exact e) (h2 w hw)
/-- the end of such a call -/
theorem end_th {n c k k' d : Nat} {S S' : Store} {t : T} (f : Fd S n c k) (f' : Fd S' n c k') (kp : Kp n S S') (h : ThT d S.length S' t) (ho : t.open S.length S' = t) :
    ∃ t' S'', gc S t S' = .ok t' S'' ∧ Fd S'' n c k' ∧ Kp n S S'' ∧ ThT d S.length S'' t' := by
  rcases gc_or (S := S) (t := t) (S' := S') with e | ⟨e, hk, hb⟩
  · exact ⟨t, S', e, f', kp, h⟩
  · rw [ho] at e hb
    refine ⟨t, _, e, f'.cut f.lt.1 f.lt.2, ⟨by simp [kp.1], fun m hm hl => by rw [List.getElem?_take_of_lt hl]; exact kp.2 m hm hl⟩, ?_⟩
    cases t with
    | w x => exact Th.lb (fun _ z => z) h hb
    | l ws => exact ⟨h.1, h.2.1, fun w hw => Th.lb (fun _ z => z) (h.2.2 w hw) (lbs_mem hb hw)⟩
theorem Fd.mono {S : Store} {n c k k' : Nat} (h : Fd S n c k) (hk : k ≤ k') : Fd S n c k' := by
  obtain ⟨g, j, cells, h1, h2, h3, h4⟩ := h
  exact ⟨g, j, cells, h1, h2, h3, by omega⟩
def D : Nat → Nat
  | 0 => 2
  | d + 1 => 2 + 2 * D d
theorem D_ge : ∀ d, 2 ≤ D d
  | 0 => Nat.le_refl _
  | d + 1 => Nat.le_add_right _ _
def scs : List W := [.non, .bl true, .bl false, .str "", .str "a7", .str "none", .int 0, .int 1, .int (-1), .int 1000000000000000000000000000000000000000, .int (-1000000000000000000000000000000000000000), .str "x y"]
theorem scs_ok {B : Nat} {L : Nat → Prop} {S : Store} : ∀ w ∈ scs, Th 0 B L S w := by
  intro w hw
  simp only [scs, List.mem_cons, List.not_mem_nil, or_false] at hw
  rcases hw with rfl | rfl | rfl | rfl | rfl | rfl | rfl | rfl | rfl | rfl | rfl | rfl <;> first | exact trivial | (show PyData.canLay0 _ = true; decide +kernel)
theorem scs_open {n : Nat} {S : Store} : ∀ w ∈ scs, (T.w w).open n S = .w w := by
  intro w hw
  simp only [scs, List.mem_cons, List.not_mem_nil, or_false] at hw
  rcases hw with rfl | rfl | rfl | rfl | rfl | rfl | rfl | rfl | rfl | rfl | rfl | rfl <;> rfl
/-- the things within -/
theorem kids_ok {n c k d f : Nat} {S0 S : Store} {many : Int} {ρ : Rho} (hρ : ∃ r : Int, ρ = [some (.loc n), some (.int (d + 1)), some (.int r), none, none]) (hf : Fd S n c k) (hk : k + 1 + 2 * D d ≤ 999999) (kp : Kp n S0 S) (f0 : n < S0.length)
    (ih : ∀ (S : Store) (k : Nat), Fd S n c k → k + D d ≤ 999999 → ∃ t S', m_law_thing f [.loc n, .int d] S = .ok t S' ∧ Fd S' n c (k + D d) ∧ Kp n S S' ∧ ThT d S.length S' t) :
    ∃ xs S', m_lc (i_range1 (m_call 2 m_law_draw (m_cons (m_var 0) (m_cons (m_c (.int 3)) (m_nil))))) [4] (g_name 4) (t_yes) (m_call 2 (m_law_thing f) (m_cons (m_var 0) (m_cons (m_op2 wSub (m_var 1) (m_c (.int 1))) (m_nil)))) ρ S = .ok (.l xs) S' ∧
      Fd S' n c (k + 1 + 2 * D d) ∧ Kp n S0 S' ∧ xs.length ≤ 2 ∧ ∀ w ∈ xs, Th d 2 (ge S0.length) S' w := by
  obtain ⟨r0, rfl⟩ := hρ
  obtain ⟨r, S1, e1, hr, f1, kp1, _⟩ := draw_fd (many := 3) hf (by omega) (by decide) (by decide)
  have hlen : (rangeW 0 (r : Int)).length = r := by rw [rangeW_len]; omega
  obtain ⟨xs, S', h1, k', h2, h3, h4, h5, h6⟩ := lcL_inv (i := 4) (me := m_call 2 (m_law_thing f) (m_cons (m_var 0) (m_cons (m_op2 wSub (m_var 1) (m_c (.int 1))) (m_nil)))) (chk := fun _ => True) (ρ := [some (.loc n), some (.int (d + 1)), some (.int r0), none, none])
    (fun rest acc S => ∃ k', Fd S n c k' ∧ k' + rest.length * D d ≤ k + 1 + 2 * D d ∧ Kp n S0 S ∧ (∀ w ∈ acc, Th d 2 (ge S0.length) S w) ∧ acc.length + rest.length ≤ 2) (fun _ _ _ _ => trivial)
    (fun w rest acc S ⟨k', h2, h3, h4, h5, h6⟩ => by
      have hm : (rest.length + 1) * D d = rest.length * D d + D d := Nat.succ_mul _ _
      have h3' : k' + (rest.length + 1) * D d ≤ k + 1 + 2 * D d := h3
      have hle : k' + D d ≤ 999999 := by omega
      obtain ⟨t, S2, q1, q2, q3, q4⟩ := ih S k' h2 hle
      have q4' : ThT d S0.length S2 t := by
        cases t with
        | w x => exact Th.up (fun m hm => Nat.le_trans h4.1 hm) (Nat.le_refl _) q4
        | l us => exact ⟨q4.1, q4.2.1, fun u hu => Th.up (fun m hm => Nat.le_trans h4.1 hm) (Nat.le_refl _) (q4.2.2 u hu)⟩
      obtain ⟨x, S3, s1, s2, s3, s4⟩ := settle_th q4' q2 (Nat.le_trans h4.1 q3.1)
      refine ⟨t, S2, x, S3, ?_, s1, k' + D d, s3, by omega, (h4.trans q3).trans s4, fun u hu => ?_, by simp at h6 ⊢; omega⟩
      · simp [m_call, m_cons, m_nil, m_op2, m_c, q1]
      · rcases List.mem_append.mp hu with hu | hu
        · exact Th.kp f0 (q3.trans s4) (h5 u hu)
        · rw [List.mem_singleton.mp hu]; exact s2)
    (rangeW 0 (r : Int)) [] S1 ⟨k + 1, f1, by
      rw [hlen]
      have : r * D d ≤ 2 * D d := Nat.mul_le_mul_right _ (by omega)
      omega, kp.trans kp1, by simp, by rw [hlen]; simp; omega⟩
  refine ⟨xs, S', m_lc_ok (S1 := S1) (it := ⟨rangeW 0 r, fun _ => True⟩) (i_range1_ok (by simp [m_call, m_cons, m_nil, m_c, e1]) (by omega) (by omega)) (le_size (by rw [hlen]; omega)) h1, h2.mono (by simp at h3; omega), h4, by simpa using h6, by simpa using h5⟩
theorem scal_ok {n c d f k : Nat} {S : Store} (h : Fd S n c k) (hk : k + 2 ≤ 999999) (r : Nat) {S1 : Store} (e1 : m_law_draw [.loc n, .int 9] S = .ok (.w (.int r)) S1) (f1 : Fd S1 n c (k + 1)) (kp1 : Kp n S S1) (hc : ¬((r : Int) < 4) ∨ d = 0) :
    ∃ t S', m_law_thing (f + 1) [.loc n, .int d] S = .ok t S' ∧ Fd S' n c (k + 2) ∧ Kp n S S' ∧ ThT d S.length S' t := by
  have f2 : Fd (S1 ++ [.lst scs]) n c (k + 1) := f1.app
  obtain ⟨r2, S3, e3, hr2, f3, kp3, l3⟩ := draw_fd (many := 12) f2 (by omega) (by decide) (by decide)
  have hl : S3[S1.length]? = some (.lst scs) := by
    rw [kp3.2 S1.length (by have := f1.lt.1; omega) (by simp)]
    simp
  have hr3 : r2 < 12 := by omega
  obtain ⟨w, hw, hm⟩ : ∃ w, scs[r2]? = some w ∧ w ∈ scs := ⟨scs[r2]'hr3, List.getElem?_eq_getElem hr3, List.getElem_mem _⟩
  have hix : wIx (.w (.loc S1.length)) (.w (.int r2)) S3 = .ok (.w w) S3 := wIx_of (fun z e => by cases e) (by simp [contOf, tupOf, seqLOf, lstOf, hl]) (atI_nn hw)
  have hsz : (12 : Nat) ≤ sizeLine := le_size (by decide)
  have hb : b_law_thing (m_law_thing f) [some (.loc n), some (.int d), none, none, none] S = .ret (.w w) S3 := by
    unfold b_law_thing
    have e3' : m_law_draw [W.loc n, W.int 12] (S1 ++ [LO.lst [W.non, W.bl true, W.bl false, W.str "", W.str "a7", W.str "none", W.int 0, W.int 1, W.int (-1), W.int 1000000000000000000000000000000000000000, W.int (-1000000000000000000000000000000000000000), W.str "x y"]]) = .ok (.w (.int r2)) S3 := e3
    rcases hc with hc | hc
    · have hc2 : ¬((r : Int) < 2) := by omega
      simp [s_seq, s_set, m_call, m_cons, m_nil, m_c, e1, s_if, t_and, t_val, m_op2, m_op1, hc, hc2, s_nil, s_ret, m_lst, wNeg, wPow, hsz, e3', hix]
    · subst hc
      by_cases hc2 : (r : Int) < 2 <;> by_cases hc3 : (r : Int) < 4 <;> simp [s_seq, s_set, m_call, m_cons, m_nil, m_c, e1, s_if, t_and, t_val, m_op2, m_op1, hc2, hc3, s_nil, s_ret, m_lst, wNeg, wPow, hsz, e3', hix]
  obtain ⟨t', S4, g1, g2, g3, g4⟩ := end_th (d := d) (t := .w w) h f3 (kp1.trans ((Kp.app (l := [.lst scs])).trans kp3)) (Th.sc (S := S3) (scs_ok w hm)) (scs_open w hm)
  exact ⟨t', S4, mdef_ret (ρ := [some (.loc n), some (.int d), none, none, none]) rfl hb g1, g2, g3, g4⟩
theorem thing_ok {n c : Nat} : ∀ {d f : Nat} {S : Store} {k : Nat}, d < f → Fd S n c k → k + D d ≤ 999999 →
    ∃ t S', m_law_thing f [.loc n, .int d] S = .ok t S' ∧ Fd S' n c (k + D d) ∧ Kp n S S' ∧ ThT d S.length S' t := by
  intro d
  induction d with
  | zero =>
    intro f S k hf h hk
    obtain ⟨f, rfl⟩ : ∃ g, f = g + 1 := ⟨f - 1, by omega⟩
    have hD : D 0 = 2 := rfl
    obtain ⟨r, S1, e1, hr, f1, kp1, l1⟩ := draw_fd (many := 9) h (by omega) (by decide) (by decide)
    exact scal_ok (d := 0) h (by omega) r e1 f1 kp1 (.inr rfl)
  | succ d ih =>
    intro f S k hf h hk
    obtain ⟨f, rfl⟩ : ∃ g, f = g + 1 := ⟨f - 1, by omega⟩
    have hD2 := D_ge d
    have hD : D (d + 1) = 2 + 2 * D d := rfl
    obtain ⟨r, S1, e1, hr, f1, kp1, l1⟩ := draw_fd (many := 9) h (by omega) (by decide) (by decide)
    have ih' : ∀ (S : Store) (k : Nat), Fd S n c k → k + D d ≤ 999999 → ∃ t S', m_law_thing f [.loc n, .int d] S = .ok t S' ∧ Fd S' n c (k + D d) ∧ Kp n S S' ∧ ThT d S.length S' t := fun S k h hk => ih (by omega) h hk
    have kids : 0 < d + 1 := Nat.succ_pos d
    have hd : (0 : Int) < (d : Int) + 1 := by omega
    by_cases h2 : (r : Int) < 2
    · obtain ⟨xs, S2, q1, q2, q3, q4, q5⟩ := kids_ok (many := 0) ⟨r, rfl⟩ f1 (by omega) kp1 h.lt.1 ih'
      have e2 : b_law_thing (m_law_thing f) [some (.loc n), some (.int (d + 1)), none, none, none] S = .ret (.l xs) S2 := by
        unfold b_law_thing
        simp [s_seq, s_set, m_call, m_cons, m_nil, m_c, e1, s_if, t_and, t_val, m_op2, h2, hd, s_ret]
        rw [q1]
        rfl
      obtain ⟨t', S3, g1, g2, g3, g4⟩ := end_th (d := d + 1) (t := .l xs) h (q2.mono (k' := k + D (d + 1)) (by omega)) q3 ⟨kids, q4, q5⟩ rfl
      exact ⟨t', S3, mdef_ret (ρ := [some (.loc n), some (.int (d + 1)), none, none, none]) rfl e2 g1, g2, g3, g4⟩
    · by_cases h4 : (r : Int) < 4
      · obtain ⟨xs, S2, q1, q2, q3, q4, q5⟩ := kids_ok (many := 0) ⟨r, rfl⟩ f1 (by omega) kp1 h.lt.1 ih'
        have e2 : b_law_thing (m_law_thing f) [some (.loc n), some (.int (d + 1)), none, none, none] S = .ret (.w (.tup xs)) S2 := by
          unfold b_law_thing
          simp [s_seq, s_set, m_call, m_cons, m_nil, m_c, e1, s_if, t_and, t_val, m_op2, h2, h4, hd, s_ret, s_nil, m_b1]
          rw [q1]
          rfl
        obtain ⟨t', S3, g1, g2, g3, g4⟩ := end_th (d := d + 1) (t := .w (.tup xs)) h (q2.mono (k' := k + D (d + 1)) (by omega)) q3 ⟨q4, q5⟩ rfl
        exact ⟨t', S3, mdef_ret (ρ := [some (.loc n), some (.int (d + 1)), none, none, none]) rfl e2 g1, g2, g3, g4⟩
      · obtain ⟨t, S', a1, a2, a3, a4⟩ := scal_ok (d := d + 1) (f := f) h (by omega) r e1 f1 kp1 (.inl h4)
        exact ⟨t, S', a1, a2.mono (by omega), a3, a4⟩
end K19

set_option Elab.async false
set_option linter.all false
set_option maxRecDepth 100000
set_option maxHeartbeats 4000000
namespace K19
open PySem PySem.Spec PyProof.Rows L2 Ev
@[simp] theorem ne_number_stars : (("number" : Str) = ("stars" : Str)) = False := eq_false (by decide +kernel)
@[simp] theorem ne_number_row : (("number" : Str) = ("row" : Str)) = False := eq_false (by decide +kernel)
@[simp] theorem ne_number_page : (("number" : Str) = ("page" : Str)) = False := eq_false (by decide +kernel)
@[simp] theorem ne_number_paper : (("number" : Str) = ("paper" : Str)) = False := eq_false (by decide +kernel)
@[simp] theorem ne_number_world : (("number" : Str) = ("world" : Str)) = False := eq_false (by decide +kernel)
@[simp] theorem ne_number_back : (("number" : Str) = ("back" : Str)) = False := eq_false (by decide +kernel)
@[simp] theorem ne_number_text : (("number" : Str) = ("text" : Str)) = False := eq_false (by decide +kernel)
@[simp] theorem ne_number_line : (("number" : Str) = ("line" : Str)) = False := eq_false (by decide +kernel)
@[simp] theorem ne_stars_number : (("stars" : Str) = ("number" : Str)) = False := eq_false (by decide +kernel)
@[simp] theorem ne_stars_row : (("stars" : Str) = ("row" : Str)) = False := eq_false (by decide +kernel)
@[simp] theorem ne_stars_page : (("stars" : Str) = ("page" : Str)) = False := eq_false (by decide +kernel)
@[simp] theorem ne_stars_paper : (("stars" : Str) = ("paper" : Str)) = False := eq_false (by decide +kernel)
@[simp] theorem ne_stars_world : (("stars" : Str) = ("world" : Str)) = False := eq_false (by decide +kernel)
@[simp] theorem ne_stars_back : (("stars" : Str) = ("back" : Str)) = False := eq_false (by decide +kernel)
@[simp] theorem ne_stars_text : (("stars" : Str) = ("text" : Str)) = False := eq_false (by decide +kernel)
@[simp] theorem ne_stars_line : (("stars" : Str) = ("line" : Str)) = False := eq_false (by decide +kernel)
@[simp] theorem ne_row_number : (("row" : Str) = ("number" : Str)) = False := eq_false (by decide +kernel)
@[simp] theorem ne_row_stars : (("row" : Str) = ("stars" : Str)) = False := eq_false (by decide +kernel)
@[simp] theorem ne_row_page : (("row" : Str) = ("page" : Str)) = False := eq_false (by decide +kernel)
@[simp] theorem ne_row_paper : (("row" : Str) = ("paper" : Str)) = False := eq_false (by decide +kernel)
@[simp] theorem ne_row_world : (("row" : Str) = ("world" : Str)) = False := eq_false (by decide +kernel)
@[simp] theorem ne_row_back : (("row" : Str) = ("back" : Str)) = False := eq_false (by decide +kernel)
@[simp] theorem ne_row_text : (("row" : Str) = ("text" : Str)) = False := eq_false (by decide +kernel)
@[simp] theorem ne_row_line : (("row" : Str) = ("line" : Str)) = False := eq_false (by decide +kernel)
@[simp] theorem ne_page_number : (("page" : Str) = ("number" : Str)) = False := eq_false (by decide +kernel)
@[simp] theorem ne_page_stars : (("page" : Str) = ("stars" : Str)) = False := eq_false (by decide +kernel)
@[simp] theorem ne_page_row : (("page" : Str) = ("row" : Str)) = False := eq_false (by decide +kernel)
@[simp] theorem ne_page_paper : (("page" : Str) = ("paper" : Str)) = False := eq_false (by decide +kernel)
@[simp] theorem ne_page_world : (("page" : Str) = ("world" : Str)) = False := eq_false (by decide +kernel)
@[simp] theorem ne_page_back : (("page" : Str) = ("back" : Str)) = False := eq_false (by decide +kernel)
@[simp] theorem ne_page_text : (("page" : Str) = ("text" : Str)) = False := eq_false (by decide +kernel)
@[simp] theorem ne_page_line : (("page" : Str) = ("line" : Str)) = False := eq_false (by decide +kernel)
@[simp] theorem ne_paper_number : (("paper" : Str) = ("number" : Str)) = False := eq_false (by decide +kernel)
@[simp] theorem ne_paper_stars : (("paper" : Str) = ("stars" : Str)) = False := eq_false (by decide +kernel)
@[simp] theorem ne_paper_row : (("paper" : Str) = ("row" : Str)) = False := eq_false (by decide +kernel)
@[simp] theorem ne_paper_page : (("paper" : Str) = ("page" : Str)) = False := eq_false (by decide +kernel)
@[simp] theorem ne_paper_world : (("paper" : Str) = ("world" : Str)) = False := eq_false (by decide +kernel)
@[simp] theorem ne_paper_back : (("paper" : Str) = ("back" : Str)) = False := eq_false (by decide +kernel)
@[simp] theorem ne_paper_text : (("paper" : Str) = ("text" : Str)) = False := eq_false (by decide +kernel)
@[simp] theorem ne_paper_line : (("paper" : Str) = ("line" : Str)) = False := eq_false (by decide +kernel)
@[simp] theorem ne_world_number : (("world" : Str) = ("number" : Str)) = False := eq_false (by decide +kernel)
@[simp] theorem ne_world_stars : (("world" : Str) = ("stars" : Str)) = False := eq_false (by decide +kernel)
@[simp] theorem ne_world_row : (("world" : Str) = ("row" : Str)) = False := eq_false (by decide +kernel)
@[simp] theorem ne_world_page : (("world" : Str) = ("page" : Str)) = False := eq_false (by decide +kernel)
@[simp] theorem ne_world_paper : (("world" : Str) = ("paper" : Str)) = False := eq_false (by decide +kernel)
@[simp] theorem ne_world_back : (("world" : Str) = ("back" : Str)) = False := eq_false (by decide +kernel)
@[simp] theorem ne_world_text : (("world" : Str) = ("text" : Str)) = False := eq_false (by decide +kernel)
@[simp] theorem ne_world_line : (("world" : Str) = ("line" : Str)) = False := eq_false (by decide +kernel)
@[simp] theorem ne_back_number : (("back" : Str) = ("number" : Str)) = False := eq_false (by decide +kernel)
@[simp] theorem ne_back_stars : (("back" : Str) = ("stars" : Str)) = False := eq_false (by decide +kernel)
@[simp] theorem ne_back_row : (("back" : Str) = ("row" : Str)) = False := eq_false (by decide +kernel)
@[simp] theorem ne_back_page : (("back" : Str) = ("page" : Str)) = False := eq_false (by decide +kernel)
@[simp] theorem ne_back_paper : (("back" : Str) = ("paper" : Str)) = False := eq_false (by decide +kernel)
@[simp] theorem ne_back_world : (("back" : Str) = ("world" : Str)) = False := eq_false (by decide +kernel)
@[simp] theorem ne_back_text : (("back" : Str) = ("text" : Str)) = False := eq_false (by decide +kernel)
@[simp] theorem ne_back_line : (("back" : Str) = ("line" : Str)) = False := eq_false (by decide +kernel)
@[simp] theorem ne_text_number : (("text" : Str) = ("number" : Str)) = False := eq_false (by decide +kernel)
@[simp] theorem ne_text_stars : (("text" : Str) = ("stars" : Str)) = False := eq_false (by decide +kernel)
@[simp] theorem ne_text_row : (("text" : Str) = ("row" : Str)) = False := eq_false (by decide +kernel)
@[simp] theorem ne_text_page : (("text" : Str) = ("page" : Str)) = False := eq_false (by decide +kernel)
@[simp] theorem ne_text_paper : (("text" : Str) = ("paper" : Str)) = False := eq_false (by decide +kernel)
@[simp] theorem ne_text_world : (("text" : Str) = ("world" : Str)) = False := eq_false (by decide +kernel)
@[simp] theorem ne_text_back : (("text" : Str) = ("back" : Str)) = False := eq_false (by decide +kernel)
@[simp] theorem ne_text_line : (("text" : Str) = ("line" : Str)) = False := eq_false (by decide +kernel)
@[simp] theorem ne_line_number : (("line" : Str) = ("number" : Str)) = False := eq_false (by decide +kernel)
@[simp] theorem ne_line_stars : (("line" : Str) = ("stars" : Str)) = False := eq_false (by decide +kernel)
@[simp] theorem ne_line_row : (("line" : Str) = ("row" : Str)) = False := eq_false (by decide +kernel)
@[simp] theorem ne_line_page : (("line" : Str) = ("page" : Str)) = False := eq_false (by decide +kernel)
@[simp] theorem ne_line_paper : (("line" : Str) = ("paper" : Str)) = False := eq_false (by decide +kernel)
@[simp] theorem ne_line_world : (("line" : Str) = ("world" : Str)) = False := eq_false (by decide +kernel)
@[simp] theorem ne_line_back : (("line" : Str) = ("back" : Str)) = False := eq_false (by decide +kernel)
@[simp] theorem ne_line_text : (("line" : Str) = ("text" : Str)) = False := eq_false (by decide +kernel)
@[simp] theorem ne_NoNumber_NoStars : (("NoNumber" : Str) = ("NoStars" : Str)) = False := eq_false (by decide +kernel)
@[simp] theorem ne_NoNumber_NoRow : (("NoNumber" : Str) = ("NoRow" : Str)) = False := eq_false (by decide +kernel)
@[simp] theorem ne_NoNumber_NoPage : (("NoNumber" : Str) = ("NoPage" : Str)) = False := eq_false (by decide +kernel)
@[simp] theorem ne_NoNumber_NoPaper : (("NoNumber" : Str) = ("NoPaper" : Str)) = False := eq_false (by decide +kernel)
@[simp] theorem ne_NoNumber_NoWorld : (("NoNumber" : Str) = ("NoWorld" : Str)) = False := eq_false (by decide +kernel)
@[simp] theorem ne_NoNumber_NoBack : (("NoNumber" : Str) = ("NoBack" : Str)) = False := eq_false (by decide +kernel)
@[simp] theorem ne_NoNumber_NoText : (("NoNumber" : Str) = ("NoText" : Str)) = False := eq_false (by decide +kernel)
@[simp] theorem ne_NoNumber_NoLine : (("NoNumber" : Str) = ("NoLine" : Str)) = False := eq_false (by decide +kernel)
@[simp] theorem ne_NoStars_NoNumber : (("NoStars" : Str) = ("NoNumber" : Str)) = False := eq_false (by decide +kernel)
@[simp] theorem ne_NoStars_NoRow : (("NoStars" : Str) = ("NoRow" : Str)) = False := eq_false (by decide +kernel)
@[simp] theorem ne_NoStars_NoPage : (("NoStars" : Str) = ("NoPage" : Str)) = False := eq_false (by decide +kernel)
@[simp] theorem ne_NoStars_NoPaper : (("NoStars" : Str) = ("NoPaper" : Str)) = False := eq_false (by decide +kernel)
@[simp] theorem ne_NoStars_NoWorld : (("NoStars" : Str) = ("NoWorld" : Str)) = False := eq_false (by decide +kernel)
@[simp] theorem ne_NoStars_NoBack : (("NoStars" : Str) = ("NoBack" : Str)) = False := eq_false (by decide +kernel)
@[simp] theorem ne_NoStars_NoText : (("NoStars" : Str) = ("NoText" : Str)) = False := eq_false (by decide +kernel)
@[simp] theorem ne_NoStars_NoLine : (("NoStars" : Str) = ("NoLine" : Str)) = False := eq_false (by decide +kernel)
@[simp] theorem ne_NoRow_NoNumber : (("NoRow" : Str) = ("NoNumber" : Str)) = False := eq_false (by decide +kernel)
@[simp] theorem ne_NoRow_NoStars : (("NoRow" : Str) = ("NoStars" : Str)) = False := eq_false (by decide +kernel)
@[simp] theorem ne_NoRow_NoPage : (("NoRow" : Str) = ("NoPage" : Str)) = False := eq_false (by decide +kernel)
@[simp] theorem ne_NoRow_NoPaper : (("NoRow" : Str) = ("NoPaper" : Str)) = False := eq_false (by decide +kernel)
@[simp] theorem ne_NoRow_NoWorld : (("NoRow" : Str) = ("NoWorld" : Str)) = False := eq_false (by decide +kernel)
@[simp] theorem ne_NoRow_NoBack : (("NoRow" : Str) = ("NoBack" : Str)) = False := eq_false (by decide +kernel)
@[simp] theorem ne_NoRow_NoText : (("NoRow" : Str) = ("NoText" : Str)) = False := eq_false (by decide +kernel)
@[simp] theorem ne_NoRow_NoLine : (("NoRow" : Str) = ("NoLine" : Str)) = False := eq_false (by decide +kernel)
@[simp] theorem ne_NoPage_NoNumber : (("NoPage" : Str) = ("NoNumber" : Str)) = False := eq_false (by decide +kernel)
@[simp] theorem ne_NoPage_NoStars : (("NoPage" : Str) = ("NoStars" : Str)) = False := eq_false (by decide +kernel)
@[simp] theorem ne_NoPage_NoRow : (("NoPage" : Str) = ("NoRow" : Str)) = False := eq_false (by decide +kernel)
@[simp] theorem ne_NoPage_NoPaper : (("NoPage" : Str) = ("NoPaper" : Str)) = False := eq_false (by decide +kernel)
@[simp] theorem ne_NoPage_NoWorld : (("NoPage" : Str) = ("NoWorld" : Str)) = False := eq_false (by decide +kernel)
@[simp] theorem ne_NoPage_NoBack : (("NoPage" : Str) = ("NoBack" : Str)) = False := eq_false (by decide +kernel)
@[simp] theorem ne_NoPage_NoText : (("NoPage" : Str) = ("NoText" : Str)) = False := eq_false (by decide +kernel)
@[simp] theorem ne_NoPage_NoLine : (("NoPage" : Str) = ("NoLine" : Str)) = False := eq_false (by decide +kernel)
@[simp] theorem ne_NoPaper_NoNumber : (("NoPaper" : Str) = ("NoNumber" : Str)) = False := eq_false (by decide +kernel)
@[simp] theorem ne_NoPaper_NoStars : (("NoPaper" : Str) = ("NoStars" : Str)) = False := eq_false (by decide +kernel)
@[simp] theorem ne_NoPaper_NoRow : (("NoPaper" : Str) = ("NoRow" : Str)) = False := eq_false (by decide +kernel)
@[simp] theorem ne_NoPaper_NoPage : (("NoPaper" : Str) = ("NoPage" : Str)) = False := eq_false (by decide +kernel)
@[simp] theorem ne_NoPaper_NoWorld : (("NoPaper" : Str) = ("NoWorld" : Str)) = False := eq_false (by decide +kernel)
@[simp] theorem ne_NoPaper_NoBack : (("NoPaper" : Str) = ("NoBack" : Str)) = False := eq_false (by decide +kernel)
@[simp] theorem ne_NoPaper_NoText : (("NoPaper" : Str) = ("NoText" : Str)) = False := eq_false (by decide +kernel)
@[simp] theorem ne_NoPaper_NoLine : (("NoPaper" : Str) = ("NoLine" : Str)) = False := eq_false (by decide +kernel)
@[simp] theorem ne_NoWorld_NoNumber : (("NoWorld" : Str) = ("NoNumber" : Str)) = False := eq_false (by decide +kernel)
@[simp] theorem ne_NoWorld_NoStars : (("NoWorld" : Str) = ("NoStars" : Str)) = False := eq_false (by decide +kernel)
@[simp] theorem ne_NoWorld_NoRow : (("NoWorld" : Str) = ("NoRow" : Str)) = False := eq_false (by decide +kernel)
@[simp] theorem ne_NoWorld_NoPage : (("NoWorld" : Str) = ("NoPage" : Str)) = False := eq_false (by decide +kernel)
@[simp] theorem ne_NoWorld_NoPaper : (("NoWorld" : Str) = ("NoPaper" : Str)) = False := eq_false (by decide +kernel)
@[simp] theorem ne_NoWorld_NoBack : (("NoWorld" : Str) = ("NoBack" : Str)) = False := eq_false (by decide +kernel)
@[simp] theorem ne_NoWorld_NoText : (("NoWorld" : Str) = ("NoText" : Str)) = False := eq_false (by decide +kernel)
@[simp] theorem ne_NoWorld_NoLine : (("NoWorld" : Str) = ("NoLine" : Str)) = False := eq_false (by decide +kernel)
@[simp] theorem ne_NoBack_NoNumber : (("NoBack" : Str) = ("NoNumber" : Str)) = False := eq_false (by decide +kernel)
@[simp] theorem ne_NoBack_NoStars : (("NoBack" : Str) = ("NoStars" : Str)) = False := eq_false (by decide +kernel)
@[simp] theorem ne_NoBack_NoRow : (("NoBack" : Str) = ("NoRow" : Str)) = False := eq_false (by decide +kernel)
@[simp] theorem ne_NoBack_NoPage : (("NoBack" : Str) = ("NoPage" : Str)) = False := eq_false (by decide +kernel)
@[simp] theorem ne_NoBack_NoPaper : (("NoBack" : Str) = ("NoPaper" : Str)) = False := eq_false (by decide +kernel)
@[simp] theorem ne_NoBack_NoWorld : (("NoBack" : Str) = ("NoWorld" : Str)) = False := eq_false (by decide +kernel)
@[simp] theorem ne_NoBack_NoText : (("NoBack" : Str) = ("NoText" : Str)) = False := eq_false (by decide +kernel)
@[simp] theorem ne_NoBack_NoLine : (("NoBack" : Str) = ("NoLine" : Str)) = False := eq_false (by decide +kernel)
@[simp] theorem ne_NoText_NoNumber : (("NoText" : Str) = ("NoNumber" : Str)) = False := eq_false (by decide +kernel)
@[simp] theorem ne_NoText_NoStars : (("NoText" : Str) = ("NoStars" : Str)) = False := eq_false (by decide +kernel)
@[simp] theorem ne_NoText_NoRow : (("NoText" : Str) = ("NoRow" : Str)) = False := eq_false (by decide +kernel)
@[simp] theorem ne_NoText_NoPage : (("NoText" : Str) = ("NoPage" : Str)) = False := eq_false (by decide +kernel)
@[simp] theorem ne_NoText_NoPaper : (("NoText" : Str) = ("NoPaper" : Str)) = False := eq_false (by decide +kernel)
@[simp] theorem ne_NoText_NoWorld : (("NoText" : Str) = ("NoWorld" : Str)) = False := eq_false (by decide +kernel)
@[simp] theorem ne_NoText_NoBack : (("NoText" : Str) = ("NoBack" : Str)) = False := eq_false (by decide +kernel)
@[simp] theorem ne_NoText_NoLine : (("NoText" : Str) = ("NoLine" : Str)) = False := eq_false (by decide +kernel)
@[simp] theorem ne_NoLine_NoNumber : (("NoLine" : Str) = ("NoNumber" : Str)) = False := eq_false (by decide +kernel)
@[simp] theorem ne_NoLine_NoStars : (("NoLine" : Str) = ("NoStars" : Str)) = False := eq_false (by decide +kernel)
@[simp] theorem ne_NoLine_NoRow : (("NoLine" : Str) = ("NoRow" : Str)) = False := eq_false (by decide +kernel)
@[simp] theorem ne_NoLine_NoPage : (("NoLine" : Str) = ("NoPage" : Str)) = False := eq_false (by decide +kernel)
@[simp] theorem ne_NoLine_NoPaper : (("NoLine" : Str) = ("NoPaper" : Str)) = False := eq_false (by decide +kernel)
@[simp] theorem ne_NoLine_NoWorld : (("NoLine" : Str) = ("NoWorld" : Str)) = False := eq_false (by decide +kernel)
@[simp] theorem ne_NoLine_NoBack : (("NoLine" : Str) = ("NoBack" : Str)) = False := eq_false (by decide +kernel)
@[simp] theorem ne_NoLine_NoText : (("NoLine" : Str) = ("NoText" : Str)) = False := eq_false (by decide +kernel)
@[simp] theorem nf_number_many : (("number" : Str) = ("many" : Str)) = False := eq_false (by decide +kernel)
@[simp] theorem nf_number_place : (("number" : Str) = ("place" : Str)) = False := eq_false (by decide +kernel)
@[simp] theorem nf_number_word : (("number" : Str) = ("word" : Str)) = False := eq_false (by decide +kernel)
@[simp] theorem nf_number_name : (("number" : Str) = ("name" : Str)) = False := eq_false (by decide +kernel)
@[simp] theorem nf_many_number : (("many" : Str) = ("number" : Str)) = False := eq_false (by decide +kernel)
@[simp] theorem nf_many_place : (("many" : Str) = ("place" : Str)) = False := eq_false (by decide +kernel)
@[simp] theorem nf_many_word : (("many" : Str) = ("word" : Str)) = False := eq_false (by decide +kernel)
@[simp] theorem nf_many_name : (("many" : Str) = ("name" : Str)) = False := eq_false (by decide +kernel)
@[simp] theorem nf_many_row : (("many" : Str) = ("row" : Str)) = False := eq_false (by decide +kernel)
@[simp] theorem nf_many_line : (("many" : Str) = ("line" : Str)) = False := eq_false (by decide +kernel)
@[simp] theorem nf_place_number : (("place" : Str) = ("number" : Str)) = False := eq_false (by decide +kernel)
@[simp] theorem nf_place_many : (("place" : Str) = ("many" : Str)) = False := eq_false (by decide +kernel)
@[simp] theorem nf_place_word : (("place" : Str) = ("word" : Str)) = False := eq_false (by decide +kernel)
@[simp] theorem nf_place_name : (("place" : Str) = ("name" : Str)) = False := eq_false (by decide +kernel)
@[simp] theorem nf_place_row : (("place" : Str) = ("row" : Str)) = False := eq_false (by decide +kernel)
@[simp] theorem nf_place_line : (("place" : Str) = ("line" : Str)) = False := eq_false (by decide +kernel)
@[simp] theorem nf_word_number : (("word" : Str) = ("number" : Str)) = False := eq_false (by decide +kernel)
@[simp] theorem nf_word_many : (("word" : Str) = ("many" : Str)) = False := eq_false (by decide +kernel)
@[simp] theorem nf_word_place : (("word" : Str) = ("place" : Str)) = False := eq_false (by decide +kernel)
@[simp] theorem nf_word_name : (("word" : Str) = ("name" : Str)) = False := eq_false (by decide +kernel)
@[simp] theorem nf_word_row : (("word" : Str) = ("row" : Str)) = False := eq_false (by decide +kernel)
@[simp] theorem nf_word_line : (("word" : Str) = ("line" : Str)) = False := eq_false (by decide +kernel)
@[simp] theorem nf_name_number : (("name" : Str) = ("number" : Str)) = False := eq_false (by decide +kernel)
@[simp] theorem nf_name_many : (("name" : Str) = ("many" : Str)) = False := eq_false (by decide +kernel)
@[simp] theorem nf_name_place : (("name" : Str) = ("place" : Str)) = False := eq_false (by decide +kernel)
@[simp] theorem nf_name_word : (("name" : Str) = ("word" : Str)) = False := eq_false (by decide +kernel)
@[simp] theorem nf_name_row : (("name" : Str) = ("row" : Str)) = False := eq_false (by decide +kernel)
@[simp] theorem nf_name_line : (("name" : Str) = ("line" : Str)) = False := eq_false (by decide +kernel)
@[simp] theorem nf_row_many : (("row" : Str) = ("many" : Str)) = False := eq_false (by decide +kernel)
@[simp] theorem nf_row_place : (("row" : Str) = ("place" : Str)) = False := eq_false (by decide +kernel)
@[simp] theorem nf_row_word : (("row" : Str) = ("word" : Str)) = False := eq_false (by decide +kernel)
@[simp] theorem nf_row_name : (("row" : Str) = ("name" : Str)) = False := eq_false (by decide +kernel)
@[simp] theorem nf_line_many : (("line" : Str) = ("many" : Str)) = False := eq_false (by decide +kernel)
@[simp] theorem nf_line_place : (("line" : Str) = ("place" : Str)) = False := eq_false (by decide +kernel)
@[simp] theorem nf_line_word : (("line" : Str) = ("word" : Str)) = False := eq_false (by decide +kernel)
@[simp] theorem nf_line_name : (("line" : Str) = ("name" : Str)) = False := eq_false (by decide +kernel)
@[simp] theorem lay_number : PyData.canLay0 (.str ("number" : Str)) = true := by decide +kernel
@[simp] theorem lay_stars : PyData.canLay0 (.str ("stars" : Str)) = true := by decide +kernel
@[simp] theorem lay_row : PyData.canLay0 (.str ("row" : Str)) = true := by decide +kernel
@[simp] theorem lay_page : PyData.canLay0 (.str ("page" : Str)) = true := by decide +kernel
@[simp] theorem lay_paper : PyData.canLay0 (.str ("paper" : Str)) = true := by decide +kernel
@[simp] theorem lay_world : PyData.canLay0 (.str ("world" : Str)) = true := by decide +kernel
@[simp] theorem lay_back : PyData.canLay0 (.str ("back" : Str)) = true := by decide +kernel
@[simp] theorem lay_text : PyData.canLay0 (.str ("text" : Str)) = true := by decide +kernel
@[simp] theorem lay_line : PyData.canLay0 (.str ("line" : Str)) = true := by decide +kernel
/-- the nine words: class, fields, what they are made of -/
def wtab : List (Str × Str × List Str × (W → W → List W)) :=
  [("number", "NoNumber", fs_NoNumber, fun a _ => [a]), ("stars", "NoStars", fs_NoStars, fun a _ => [a]), ("row", "NoRow", fs_NoRow, fun a _ => [a]), ("page", "NoPage", fs_NoPage, fun a b => [a, b]), ("paper", "NoPaper", fs_NoPaper, fun a b => [a, b]),
   ("world", "NoWorld", fs_NoWorld, fun a _ => [a]), ("back", "NoBack", fs_NoBack, fun _ _ => []), ("text", "NoText", fs_NoText, fun a b => [a, b]), ("line", "NoLine", fs_NoLine, fun a _ => [a])]
theorem wEq_s {i j : Str} {S : Store} (hi : PyData.canLay0 (.str i) = true) (hj : PyData.canLay0 (.str j) = true) : wEq (.w (.str i)) (.w (.str j)) S = .ok (.w (.bl (decide (i = j)))) S := by
  rw [wEq_str hi hj]
  congr
theorem wtab_cases {p : Str × Str × List Str × (W → W → List W) → Prop} (h : ∀ e ∈ wtab, p e) : True := trivial
theorem raise_ok {a b : W} (ha : a.isX = false) (hb : b.isX = false) (S : Store) : ∀ e ∈ wtab, m_law_raise [.str e.1, a, b] S = .exc e.2.1 e.2.2.1 (e.2.2.2 a b) S := by
  intro e he
  simp only [wtab, List.mem_cons, List.not_mem_nil, or_false] at he
  unfold m_law_raise mdef b_law_raise
  rcases he with rfl | rfl | rfl | rfl | rfl | rfl | rfl | rfl | rfl <;>
    simp [s_seq, s_if, t_val, m_op2, m_c, wEq_s, s_nil, s_raise, s_raise0, m_cons, m_nil, ha, hb, gcx_same]
theorem isx_of {i : Nat} {known yes : List Str} {ρ : Rho} {S : Store} {c : Str} {ns : List Str} {ws : List W} (h : ρ[i]? = some (some (.exn c ns ws))) (hk : c ∈ known) : m_isx i known yes ρ S = .ok (.w (.bl (decide (c ∈ yes)))) S := by
  unfold m_isx
  rw [h]
  simp only
  rw [if_pos hk]
theorem errs_mem : ∀ e ∈ wtab, e.2.1 ∈ errs := by
  intro e he
  simp only [wtab, List.mem_cons, List.not_mem_nil, or_false] at he
  rcases he with rfl | rfl | rfl | rfl | rfl | rfl | rfl | rfl | rfl <;> decide +kernel
theorem isx0 {yes : List Str} {r : Rho} {S : Store} {c : Str} {ns : List Str} {ws : List W} (hk : c ∈ errs) : m_isx 0 errs yes (some (.exn c ns ws) :: r) S = .ok (.w (.bl (decide (c ∈ yes)))) S := isx_of rfl hk
theorem words_ok {ns : List Str} {ws : List W} (S : Store) : ∀ e ∈ wtab, m_law_words_of [.exn e.2.1 ns ws] S = .ok (.l [.str e.1]) S := by
  intro e he
  have hk := errs_mem e he
  have hsz : (0 : Nat) < sizeLine := by rw [sizeLine_eq]; decide
  have key : b_law_words_of [some (.exn e.2.1 ns ws), none] S = .ret (.w (.loc S.length)) (S ++ [.lst [.str e.1]]) := by
    unfold b_law_words_of
    simp only [wtab, List.mem_cons, List.not_mem_nil, or_false] at he
    rcases he with rfl | rfl | rfl | rfl | rfl | rfl | rfl | rfl | rfl <;>
      simp [s_seq, s_set, m_lst, m_nil, s_if, t_val, isx0 hk, s_nil, s_expr, m_append, m_c, isLst, wAppend, hsz, s_ret, m_var]
  exact mdef_ret (ρ := [some (.exn e.2.1 ns ws), none]) rfl key (gc_new rfl)
theorem fields_ok {a b : W} (S : Store) : ∀ e ∈ wtab, m_law_fields [.str e.1, .exn e.2.1 e.2.2.1 (e.2.2.2 a b)] S = .ok (.l (e.2.2.2 a b)) S := by
  intro e he
  have hsz : (2 : Nat) ≤ sizeLine := by rw [sizeLine_eq]; decide
  have hsz1 : (1 : Nat) ≤ sizeLine := by rw [sizeLine_eq]; decide
  have key : b_law_fields [some (.str e.1), some (.exn e.2.1 e.2.2.1 (e.2.2.2 a b))] S = .ret (.l (e.2.2.2 a b)) S := by
    unfold b_law_fields
    simp only [wtab, List.mem_cons, List.not_mem_nil, or_false] at he
    rcases he with rfl | rfl | rfl | rfl | rfl | rfl | rfl | rfl | rfl <;>
      simp [s_seq, s_if, t_val, m_op2, m_c, wEq_s, s_nil, s_ret, m_lst, m_cons, m_nil, m_xf, fldOf, hsz, hsz1]
  exact mdef_ret (ρ := [some (.str e.1), some (.exn e.2.1 e.2.2.1 (e.2.2.2 a b))]) rfl key (gc_same rfl)
theorem lay_w : ∀ e ∈ wtab, PyData.canLay0 (.str e.1) = true := by
  intro e he
  simp only [wtab, List.mem_cons, List.not_mem_nil, or_false] at he
  rcases he with rfl | rfl | rfl | rfl | rfl | rfl | rfl | rfl | rfl <;> simp
theorem kinds_eq {S : Store} {m : Nat} {x : Str} (h : S[m]? = some (.lst [.str x])) (hl : PyData.canLay0 (.str x) = true) : wEq (.w (.loc m)) (.l [.str x]) S = .ok (.w (.bl true)) S := by
  have hs : SeqAt.shaped (.list [.str x]) = true := by
    unfold SeqAt.shaped
    simp [PyData.canLay0, PyData.canLayAll0, PyData.depth, PyData.depthAll] at hl ⊢
    exact hl
  rw [wEq_dat (d := .list [.str x]) (e := .list [.str x]) (by simp [T.dat, lstOf, h, W.dats, W.dat]) (by simp [T.dat, lstOf, W.dats, W.dat]) hs hs]
  simp [PyData.eqv, PyData.eqvAll]
theorem in_ok {S : Store} : ∀ e ∈ wtab, ∃ b, wIn (.w (.str e.1)) (.w (.tup [.str "page", .str "paper", .str "text"])) S = .ok (.w (.bl b)) S ∧ ((b = true ∧ (e.2.2.2 = fun a b => [a, b]) ∧ e.1 ≠ "back") ∨ (b = false ∧ (e.2.2.2 = fun a b => [a]) ∧ e.1 ≠ "back") ∨ (b = false ∧ (e.2.2.2 = fun a b => []) ∧ e.1 = "back")) := by
  intro e he
  simp only [wtab, List.mem_cons, List.not_mem_nil, or_false] at he
  have hw : ∀ x : Str, PyData.canLay0 (.str x) = true → wIn (.w (.str x)) (.w (.tup [.str "page", .str "paper", .str "text"])) S = .ok (.w (.bl (["page", "paper", "text"].any fun y => decide (y = x)))) S := fun x hx => wIn_strs (xs := ["page", "paper", "text"]) hx (by simp)
  rcases he with rfl | rfl | rfl | rfl | rfl | rfl | rfl | rfl | rfl
  · exact ⟨false, by rw [hw _ (by simp)]; simp, .inr (.inl ⟨rfl, rfl, by simp⟩)⟩
  · exact ⟨false, by rw [hw _ (by simp)]; simp, .inr (.inl ⟨rfl, rfl, by simp⟩)⟩
  · exact ⟨false, by rw [hw _ (by simp)]; simp, .inr (.inl ⟨rfl, rfl, by simp⟩)⟩
  · exact ⟨true, by rw [hw _ (by simp)]; simp, .inl ⟨rfl, rfl, by simp⟩⟩
  · exact ⟨true, by rw [hw _ (by simp)]; simp, .inl ⟨rfl, rfl, by simp⟩⟩
  · exact ⟨false, by rw [hw _ (by simp)]; simp, .inr (.inl ⟨rfl, rfl, by simp⟩)⟩
  · exact ⟨false, by rw [hw _ (by simp)]; simp, .inr (.inr ⟨rfl, rfl, rfl⟩)⟩
  · exact ⟨true, by rw [hw _ (by simp)]; simp, .inl ⟨rfl, rfl, by simp⟩⟩
  · exact ⟨false, by rw [hw _ (by simp)]; simp, .inr (.inl ⟨rfl, rfl, by simp⟩)⟩
end K19

set_option Elab.async false
set_option linter.all false
set_option maxRecDepth 100000
set_option maxHeartbeats 4000000
namespace K19
open PySem PySem.Spec PyProof.Rows L2 Ev
theorem isx5 {a0 a1 a2 a3 a4 : Option W} {r : Rho} {yes : List Str} {S : Store} {c : Str} {ns : List Str} {ws : List W} (hk : c ∈ errs) : m_isx 5 errs yes (a0 :: a1 :: a2 :: a3 :: a4 :: some (.exn c ns ws) :: r) S = .ok (.w (.bl (decide (c ∈ yes)))) S := isx_of rfl hk
theorem notExn_of {w : W} (h : w.isX = false) : notExn (some w) = true := by
  cases w <;> first | rfl | cases h
@[simp] theorem notExn_none : notExn none = true := rfl
@[simp] theorem notExn_str {x : Str} : notExn (some (.str x)) = true := rfl
@[simp] theorem notExn_loc {x : Nat} : notExn (some (.loc x)) = true := rfl
theorem right_ok {S : Store} {L n c k : Nat} {one other : W} (hn : n < L) (hc : c < L) (hLS : L ≤ S.length) (f : Fd S n c k) (h1 : Th 3 2 (ge L) S one) (h2 : Th 2 2 (ge L) S other) :
    ∀ e ∈ wtab, ∃ S', m_law_right [.str e.1, one, other] S = .ok (.w (.bl true)) S' ∧ Fd S' n c k := by
  intro e he
  have x1 := Th.nx h1
  have x2 := Th.nx h2
  have hsz1 : (1 : Nat) ≤ sizeLine := le_size (by decide)
  have hsz2 : (2 : Nat) ≤ sizeLine := le_size (by decide)
  have hsz3 : (3 : Nat) ≤ sizeLine := le_size (by decide)
  generalize hp : (fun m => ge L m ∧ m < S.length) = p
  have h1' : Th 3 2 p S one := hp ▸ Th.bd h1
  have h2' : Th 2 2 p S other := hp ▸ Th.bd h2
  have np : ∀ m, m < L → ¬ p m := fun m hm z => by
    rw [← hp] at z
    have : L ≤ m := z.1
    omega
  have npS : ¬ p S.length := fun z => by
    rw [← hp] at z
    exact absurd z.2 (Nat.lt_irrefl _)
  have app : ∀ (S : Store) (l : List LO) {d B : Nat} {w : W}, Th d B p S w → Th d B p (S ++ l) w := fun S l d B w h =>
    Th.stay (fun m us _ q => by rw [List.getElem?_append_left (List.getElem?_eq_some_iff.mp q).1]; exact q) h
  obtain ⟨S2, e2, g2⟩ := grow_ok (d := 3) (f := 12) (B := 2) (by decide) (app S [.lst [.str e.1]] h1') (by decide +kernel)
  obtain ⟨S3, e3, g3⟩ := grow_ok (d := 2) (f := 12) (B := 2 + A 3 2) (by decide) (Th.grow g2 (app S [.lst [.str e.1]] h2')) (by decide +kernel)
  have hB : 2 + A 3 2 + A 2 (2 + A 3 2) ≤ 1000 := by decide +kernel
  have one3 : Th 3 (2 + A 3 2 + A 2 (2 + A 3 2)) p S3 one := Th.grow g3 (Th.grow g2 (app S [.lst [.str e.1]] h1'))
  have oth3 : Th 3 (2 + A 3 2 + A 2 (2 + A 3 2)) p S3 other ∨ Th 2 (2 + A 3 2 + A 2 (2 + A 3 2)) p S3 other := .inr (Th.grow g3 (Th.grow g2 (app S [.lst [.str e.1]] h2')))
  have kS3 : S3[S.length]? = some (.lst [.str e.1]) := by
    rw [g3.2.1 _ npS, g2.2.1 _ npS]
    simp
  have l3 : S3.length = S.length + 1 := by rw [g3.1, g2.1]; simp
  have f3 : Fd S3 n c k := by
    obtain ⟨g, j, cells, q1, q2, q3, q4⟩ := f.app (l := [.lst [.str e.1]])
    exact ⟨g, j, cells, by rw [g3.2.1 _ (np n hn), g2.2.1 _ (np n hn)]; exact q1, by rw [g3.2.1 _ (np c hc), g2.2.1 _ (np c hc)]; exact q2, q3, q4⟩
  have hlay := lay_w e he
  have hk := errs_mem e he
  generalize hv : e.2.2.2 one other = vals
  have hsame : ∀ (S' : Store) (a b : Nat), (∃ l, S' = S3 ++ l) → S'[a]? = some (.lst vals) → S'[b]? = some (.lst vals) → m_law_same 12 [.loc a, .loc b] S' = .ok (.w (.bl true)) S' := by
    intro S' a b ⟨l, hl⟩ ha hb
    subst hl
    have ca : contOf (.w (.loc a)) (S3 ++ l) = some vals := by simp [contOf, tupOf, seqLOf, lstOf, ha]
    have cb : contOf (.w (.loc b)) (S3 ++ l) = some vals := by simp [contOf, tupOf, seqLOf, lstOf, hb]
    have o1 : m_law_same 11 [one, one] (S3 ++ l) = .ok (.w (.bl true)) (S3 ++ l) := same_ok hB (by decide) (app S3 l one3)
    have o2 : m_law_same 11 [other, other] (S3 ++ l) = .ok (.w (.bl true)) (S3 ++ l) := by
      rcases oth3 with h | h
      · exact same_ok hB (by decide) (app S3 l h)
      · exact same_ok hB (by decide) (app S3 l h)
    have hvals : vals = [one, other] ∨ vals = [one] ∨ vals = [] := by
      obtain ⟨b, _, h | h | h⟩ := in_ok (S := S) e he
      · rw [h.2.1] at hv; exact .inl hv.symm
      · rw [h.2.1] at hv; exact .inr (.inl hv.symm)
      · rw [h.2.1] at hv; exact .inr (.inr hv.symm)
    refine same_seq (f := 11) (n := "list") (.inr rfl) (by simp [tyN, ha]) (by simp [tyN, hb]) ca cb rfl rfl rfl (by rcases hvals with h | h | h <;> simp [h]) fun j a b q1 q2 => ?_
    rw [q1] at q2; cases q2
    have := List.mem_of_getElem? q1
    rcases hvals with h | h | h
    · rw [h] at this
      simp only [List.mem_cons, List.not_mem_nil, or_false] at this
      rcases this with rfl | rfl
      · exact o1
      · exact o2
    · rw [h] at this
      rw [List.mem_singleton.mp this]
      exact o1
    · rw [h] at this; cases this
  have htry : (s_try 5 errs errs (s_expr (m_call 3 m_law_raise (m_cons (m_var 0) (m_cons (m_var 1) (m_cons (m_var 2) (m_nil)))))) (s_seq (s_set 3 (m_call 1 m_law_words_of (m_consX 5 (m_nil)))) (s_if (t_and (t_val (m_op2 wEq (m_var 3) (m_lst (m_cons (m_var 0) (m_nil))))) (t_val (m_isx 5 errs errs))) (s_seq (s_expr (m_call 1 (m_law_grow 12) (m_cons (m_var 1) (m_nil)))) (s_seq (s_expr (m_call 1 (m_law_grow 12) (m_cons (m_var 2) (m_nil)))) (s_set 4 (m_call 2 m_law_fields (m_cons (m_var 0) (m_consX 5 (m_nil))))))) (s_nil)))) [some (.str e.1), some one, some other, some .non, some .non, none, none] S =
      .next [some (.str e.1), some one, some other, some (.loc S.length), some (.loc S3.length), none, none] (S3 ++ [.lst vals]) := by
    have r1 := raise_ok x1 x2 S e he
    rw [hv] at r1
    have w1 := words_ok (ns := e.2.2.1) (ws := vals) S e he
    have k1 : wEq (.w (.loc S.length)) (.l [.str e.1]) (S ++ [.lst [.str e.1]]) = .ok (.w (.bl true)) (S ++ [.lst [.str e.1]]) := kinds_eq (by simp) hlay
    have f1 := fields_ok (a := one) (b := other) S3 e he
    rw [hv] at f1
    unfold s_try
    simp [s_expr, m_call, m_cons, m_nil, x1, x2, r1, hk, s_seq, s_set, m_consX, w1, s_if, t_and, t_val, m_op2, m_lst, hsz1, k1, isx5 hk, e2, e3, f1, endSuite, notExn_of x1, notExn_of x2]
  have hdue : ∃ (D : Nat) (l : List LO), (s_seq (s_set 6 (m_if (t_val (m_op2 wIn (m_var 0) (m_tup (m_cons (m_c (.str "page")) (m_cons (m_c (.str "paper")) (m_cons (m_c (.str "text")) (m_nil))))))) (m_lst (m_cons (m_var 1) (m_cons (m_var 2) (m_nil)))) (m_lst (m_cons (m_var 1) (m_nil))))) (s_if (t_val (m_op2 wEq (m_var 0) (m_c (.str "back")))) (s_set 6 (m_lst (m_nil))) (s_nil))) [some (.str e.1), some one, some other, some (.loc S.length), some (.loc S3.length), none, none] (S3 ++ [.lst vals]) =
      .next [some (.str e.1), some one, some other, some (.loc S.length), some (.loc S3.length), none, some (.loc D)] (S3 ++ [.lst vals] ++ l) ∧ (S3 ++ [.lst vals] ++ l)[D]? = some (.lst vals) := by
    have hbk : ∀ S' : Store, wEq (.w (.str e.1)) (.w (.str "back")) S' = .ok (.w (.bl (decide (e.1 = "back")))) S' := fun S' => wEq_s hlay (by simp)
    obtain ⟨b, hb, h | h | h⟩ := in_ok (S := S3 ++ [.lst vals]) e he
    · rw [h.2.1] at hv
      obtain ⟨rfl, _, hne⟩ := h
      have hv' : ([one, other] : List W) = vals := hv
      subst hv'
      refine ⟨S3.length + 1, [.lst [one, other]], ?_, by simp⟩
      simp [s_seq, s_set, m_if, t_val, m_op2, m_tup, m_cons, m_nil, m_c, hsz3, hb, m_lst, x1, x2, hsz2, hsz1, s_if, hbk, hne, s_nil]
    · rw [h.2.1] at hv
      obtain ⟨rfl, _, hne⟩ := h
      have hv' : ([one] : List W) = vals := hv
      subst hv'
      refine ⟨S3.length + 1, [.lst [one]], ?_, by simp⟩
      simp [s_seq, s_set, m_if, t_val, m_op2, m_tup, m_cons, m_nil, m_c, hsz3, hb, m_lst, x1, x2, hsz2, hsz1, s_if, hbk, hne, s_nil]
    · rw [h.2.1] at hv
      obtain ⟨rfl, _, hne⟩ := h
      have hv' : ([] : List W) = vals := hv
      subst hv'
      refine ⟨S3.length + 1 + 1, [.lst [one], .lst []], ?_, by rw [List.append_assoc, List.getElem?_append_right (by omega), show S3.length + 1 + 1 - S3.length = 2 by omega]; rfl⟩
      rw [hne] at hb
      simp only [hne] at hbk
      simp [s_seq, s_set, m_if, t_val, m_op2, m_tup, m_cons, m_nil, m_c, hsz3, hb, m_lst, x1, x2, hsz2, hsz1, s_if, hbk, hne, s_nil]
  obtain ⟨D, l, hdue, hD⟩ := hdue
  have hS5 : S3 ++ [.lst vals] ++ l = S3 ++ ([.lst vals] ++ l) := List.append_assoc _ _ _
  have hF : (S3 ++ [.lst vals] ++ l)[S3.length]? = some (.lst vals) := by simp
  have hK : (S3 ++ [.lst vals] ++ l)[S.length]? = some (.lst [.str e.1]) := by
    rw [List.append_assoc, List.getElem?_append_left (by omega)]
    exact kS3
  have hend : b_law_right [some (.str e.1), some one, some other, none, none, none, none] S = .ret (.w (.bl true)) (S3 ++ [.lst vals] ++ l) := by
    unfold b_law_right
    have k5 := kinds_eq hK hlay
    have s5 := hsame _ _ _ ⟨[.lst vals] ++ l, hS5⟩ hF hD
    have e0 : ∀ tail : MS, (s_seq (s_set 6 (m_if (t_val (m_op2 wIn (m_var 0) (m_tup (m_cons (m_c (.str "page")) (m_cons (m_c (.str "paper")) (m_cons (m_c (.str "text")) (m_nil))))))) (m_lst (m_cons (m_var 1) (m_cons (m_var 2) (m_nil)))) (m_lst (m_cons (m_var 1) (m_nil))))) (s_seq (s_if (t_val (m_op2 wEq (m_var 0) (m_c (.str "back")))) (s_set 6 (m_lst (m_nil))) (s_nil)) tail)) [some (.str e.1), some one, some other, some (.loc S.length), some (.loc S3.length), none, none] (S3 ++ [.lst vals]) =
        tail [some (.str e.1), some one, some other, some (.loc S.length), some (.loc S3.length), none, some (.loc D)] (S3 ++ [.lst vals] ++ l) := fun tail => by
      have q : ∀ (a b c : MS) (ρ : Rho) (S : Store), s_seq a (s_seq b c) ρ S = s_seq (s_seq a b) c ρ S := fun a b c ρ S => by
        unfold s_seq
        cases a ρ S <;> rfl
      rw [q]
      show ((s_seq _ _) _ _).seq tail = _
      rw [hdue]
      rfl
    show ((s_set 3 (m_c .non)) _ _).seq _ = _
    have z3 : (s_set 3 (m_c .non)) [some (.str e.1), some one, some other, none, none, none, none] S = .next [some (.str e.1), some one, some other, some .non, none, none, none] S := rfl
    rw [z3, RS.next_seq]
    show ((s_set 4 (m_c .non)) _ _).seq _ = _
    have z4 : (s_set 4 (m_c .non)) [some (.str e.1), some one, some other, some .non, none, none, none] S = .next [some (.str e.1), some one, some other, some .non, some .non, none, none] S := rfl
    rw [z4, RS.next_seq]
    show ((s_try 5 errs errs _ _) _ _).seq _ = _
    rw [htry, RS.next_seq, e0]
    simp [s_ret, m_and, m_op2, m_lst, m_cons, m_nil, hsz1, m_call, asB]
    simp at k5 s5
    rw [k5]
    simp [asB, s5]
  have f5 : Fd (S3 ++ [.lst vals] ++ l) n c k := by rw [hS5]; exact f3.app
  rcases gc_plain (S := S) (S' := S3 ++ [.lst vals] ++ l) (x := .bl true) (fun _ _ => rfl) with g | g
  · exact ⟨_, mdef_ret (ρ := [some (.str e.1), some one, some other, none, none, none, none]) rfl hend g, f5⟩
  · exact ⟨_, mdef_ret (ρ := [some (.str e.1), some one, some other, none, none, none, none]) rfl hend g, f5.cut (by omega) (by omega)⟩
theorem wtab_words : wtab.map (fun e => W.str e.1) = [.str "number", .str "stars", .str "row", .str "page", .str "paper", .str "world", .str "back", .str "text", .str "line"] := rfl
/-- one turn of the law's loop -/
theorem turn_ok {S : Store} {n c k : Nat} {e : Str × Str × List Str × (W → W → List W)} (he : e ∈ wtab) (f : Fd S n c k) (hk : k + D 3 + D 2 ≤ 999999) :
    ∃ S', m_call 3 m_law_right (m_cons (m_var 4) (m_cons (m_call 2 (m_law_thing 12) (m_cons (m_var 1) (m_cons (m_c (.int 3)) (m_nil)))) (m_cons (m_call 2 (m_law_thing 12) (m_cons (m_var 1) (m_cons (m_c (.int 2)) (m_nil)))) (m_nil)))) [a0, some (.loc n), a2, a3, some (.str e.1)] S = .ok (.w (.bl true)) S' ∧ Fd S' n c (k + D 3 + D 2) := by
  obtain ⟨t1, S1, e1, f1, k1, th1⟩ := thing_ok (d := 3) (f := 12) (by decide) f (by omega)
  obtain ⟨w1, S2, s2, h2, f2, k2⟩ := settle_th th1 f1 k1.1
  obtain ⟨t2, S3, e3, f3, k3, th3⟩ := thing_ok (d := 2) (f := 12) (by decide) f2 hk
  obtain ⟨w2, S4, s4, h4, f4, k4⟩ := settle_th th3 f3 k3.1
  have hL : S.length ≤ S2.length := Nat.le_trans k1.1 k2.1
  have h2' : Th 3 2 (ge S.length) S4 w1 := Th.kp f.lt.1 (k3.trans k4) h2
  have h4' : Th 2 2 (ge S.length) S4 w2 := Th.up (fun m hm => Nat.le_trans hL hm) (Nat.le_refl _) h4
  obtain ⟨S5, e5, f5⟩ := right_ok f.lt.1 f.lt.2 (Nat.le_trans hL (Nat.le_trans k3.1 k4.1)) f4 h2' h4' e he
  refine ⟨S5, ?_, f5⟩
  have e1' : m_law_thing 12 [.loc n, .int 3] S = .ok t1 S1 := e1
  have e3' : m_law_thing 12 [.loc n, .int 2] S2 = .ok t2 S3 := e3
  simp [m_call, m_cons, m_nil, m_c, e1', s2, e3', s4, e5]
end K19

set_option Elab.async false
set_option linter.all false
set_option maxRecDepth 100000
set_option maxHeartbeats 4000000
namespace K19
open PySem PySem.Spec PyProof.Rows L2 Ev
theorem cutW_mem {ws : List W} {lo hi : Option Int} {w : W} (h : w ∈ cutW ws lo hi) : w ∈ ws := List.mem_of_mem_drop (List.mem_of_mem_take h)
theorem cutW_len {ws : List W} {lo hi : Option Int} : (cutW ws lo hi).length ≤ ws.length := by
  unfold cutW
  simp only [List.length_take, List.length_drop]
  omega
def wds : List W := [.str "number", .str "stars", .str "row", .str "page", .str "paper", .str "world", .str "back", .str "text", .str "line"]
theorem wds_mem {w : W} (h : w ∈ wds) : ∃ e ∈ wtab, w = .str e.1 := by
  have h' : w ∈ wtab.map (fun e => W.str e.1) := h
  obtain ⟨e, he, rfl⟩ := List.mem_map.mp h'
  exact ⟨e, he, rfl⟩
theorem law_ok (ns : List Int) (h : ns.length ≤ 63) : ∃ S', mlaw [.rol (ns.map .int)] [] = .ok (.w (.bl true)) S' := by
  obtain ⟨g, cells, hne, hfeed⟩ := feed_ok ns h
  have hsz : (9 : Nat) ≤ sizeLine := le_size (by decide)
  let S1 : Store := [.lst (cells.map .int), .lst [.int g, .loc 0, .int 0]]
  have fd1 : Fd (S1 ++ [.lst wds]) 1 0 0 := ⟨g, 0, cells, rfl, rfl, hne, Nat.le_refl _⟩
  obtain ⟨r, S2, e2, hr, fd2, k2, l2⟩ := draw_fd (many := 9) fd1 (by decide) (by decide) (by decide)
  have hw : S2[2]? = some (.lst wds) := by rw [k2.2 2 (by decide) (by simp [S1])]; rfl
  have hD : D 3 + D 2 = 44 := rfl
  obtain ⟨ws, hws, hlen, hmem⟩ : ∃ ws, i_seq (m_op2 wAdd (m_op2 wAdd (m_sl (m_var 2) (o_some (m_var 3)) (o_none)) (m_var 2)) (m_sl (m_var 2) (o_none) (o_some (m_var 3)))) [some (.rol (ns.map .int)), some (.loc 1), some (.loc 2), some (.int r), none] S2 = .ok ⟨ws, fun _ => True⟩ S2 ∧ ws.length ≤ 27 ∧ ∀ w ∈ ws, ∃ e ∈ wtab, w = .str e.1 := by
    have hwl : wds.length = 9 := rfl
    have c1 := cutW_len (ws := wds) (lo := some (r : Int)) (hi := none)
    have c2 := cutW_len (ws := wds) (lo := none) (hi := some (r : Int))
    have z1 : (cutW wds (some (r : Int)) none).length + wds.length ≤ sizeLine := le_size (by omega)
    have z2 : (cutW wds (some (r : Int)) none ++ wds).length + (cutW wds none (some (r : Int))).length ≤ sizeLine := le_size (by rw [List.length_append]; omega)
    refine ⟨cutW wds (some (r : Int)) none ++ wds ++ cutW wds none (some (r : Int)), i_seq_ok (t := .l (cutW wds (some (r : Int)) none ++ wds ++ cutW wds none (some (r : Int)))) ?_ rfl, by simp only [List.length_append]; omega, fun w hw => ?_⟩
    · have a1 : wAdd (.l (cutW wds (some (r : Int)) none)) (.w (.loc 2)) S2 = .ok (.l (cutW wds (some (r : Int)) none ++ wds)) S2 := by
        show (match lstOf (T.l (cutW wds (some (r : Int)) none)) S2, lstOf (T.w (.loc 2)) S2 with | some a, some b => if a.length + b.length ≤ sizeLine then R.ok (T.l (a ++ b)) S2 else R.no | _, _ => R.no) = _
        simp only [lstOf, hw]
        rw [if_pos z1]
      have a2 : wAdd (.l (cutW wds (some (r : Int)) none ++ wds)) (.l (cutW wds none (some (r : Int)))) S2 = .ok (.l (cutW wds (some (r : Int)) none ++ wds ++ cutW wds none (some (r : Int)))) S2 := by
        show (match lstOf (T.l (cutW wds (some (r : Int)) none ++ wds)) S2, lstOf (T.l (cutW wds none (some (r : Int)))) S2 with | some a, some b => if a.length + b.length ≤ sizeLine then R.ok (T.l (a ++ b)) S2 else R.no | _, _ => R.no) = _
        simp only [lstOf]
        rw [if_pos z2]
      simp [m_op2, m_sl, o_some, o_none, wSl, seqLOf, lstOf, hw, a1]
      simpa using a2
    · rcases List.mem_append.mp hw with hw | hw
      · rcases List.mem_append.mp hw with hw | hw
        · exact wds_mem (cutW_mem hw)
        · exact wds_mem hw
      · exact wds_mem (cutW_mem hw)
  obtain ⟨ρ', S', e3, _⟩ := forL_inv (g := g_name 4) (clr := [4]) (chk := fun _ => True) (body := s_if (t_not (t_val (m_call 3 m_law_right (m_cons (m_var 4) (m_cons (m_call 2 (m_law_thing 12) (m_cons (m_var 1) (m_cons (m_c (.int 3)) (m_nil)))) (m_cons (m_call 2 (m_law_thing 12) (m_cons (m_var 1) (m_cons (m_c (.int 2)) (m_nil)))) (m_nil))))))) (s_ret (m_c (.bl false))) (s_nil))
    (fun rest ρ S => ∃ k, Fd S 1 0 k ∧ k + rest.length * 44 ≤ 999999 ∧ (∀ w ∈ rest, ∃ e ∈ wtab, w = .str e.1) ∧ ∃ y, ρ = [some (.rol (ns.map .int)), some (.loc 1), some (.loc 2), some (.int r), y]) (fun _ _ _ _ => trivial)
    (fun w rest ρ S ⟨k, f, hk, hm, y, e⟩ => by
      subst e
      obtain ⟨e, he, rfl⟩ := hm w (by simp)
      have hk' : k + (rest.length + 1) * 44 ≤ 999999 := hk
      obtain ⟨S3, e3, f3⟩ := turn_ok (a0 := some (.rol (ns.map .int))) (a2 := some (.loc 2)) (a3 := some (.int r)) he f (by omega)
      refine ⟨[some (.rol (ns.map .int)), some (.loc 1), some (.loc 2), some (.int r), some (.str e.1)], S, [some (.rol (ns.map .int)), some (.loc 1), some (.loc 2), some (.int r), some (.str e.1)], S3, by simp [g_name], .inl ?_, k + D 3 + D 2, f3, by omega, fun z hz => hm z (by simp [hz]), some (.str e.1), rfl⟩
      unfold s_if t_not t_val
      rw [e3]
      rfl)
    ws [some (.rol (ns.map .int)), some (.loc 1), some (.loc 2), some (.int r), none] S2 ⟨1, fd2, by omega, hmem, none, rfl⟩
  have key : blaw [some (.rol (ns.map .int)), none, none, none, none] [] = .ret (.w (.bl true)) S' := by
    unfold blaw
    have z1 : (s_set 1 (m_call 1 m_law_feed (m_cons (m_var 0) (m_nil)))) [some (.rol (ns.map .int)), none, none, none, none] [] = .next [some (.rol (ns.map .int)), some (.loc 1), none, none, none] S1 := by
      simp [s_set, m_call, m_cons, m_nil, hfeed, S1]
    show ((s_set 1 _) _ _).seq _ = _
    rw [z1, RS.next_seq]
    show ((s_set 2 _) _ _).seq _ = _
    have z2 : (s_set 2 (m_lst (m_cons (m_c (.str "number")) (m_cons (m_c (.str "stars")) (m_cons (m_c (.str "row")) (m_cons (m_c (.str "page")) (m_cons (m_c (.str "paper")) (m_cons (m_c (.str "world")) (m_cons (m_c (.str "back")) (m_cons (m_c (.str "text")) (m_cons (m_c (.str "line")) (m_nil)))))))))))) [some (.rol (ns.map .int)), some (.loc 1), none, none, none] S1 = .next [some (.rol (ns.map .int)), some (.loc 1), some (.loc 2), none, none] (S1 ++ [.lst wds]) := by
      simp [s_set, m_lst, m_cons, m_nil, m_c, hsz, S1, wds]
    rw [z2, RS.next_seq]
    show ((s_set 3 _) _ _).seq _ = _
    have z3 : (s_set 3 (m_call 2 m_law_draw (m_cons (m_var 1) (m_cons (m_c (.int 9)) (m_nil))))) [some (.rol (ns.map .int)), some (.loc 1), some (.loc 2), none, none] (S1 ++ [.lst wds]) = .next [some (.rol (ns.map .int)), some (.loc 1), some (.loc 2), some (.int r), none] S2 := by
      simp only [s_set, m_call, m_cons, m_nil, m_c, mv1 isX_loc, R.ok_bind, settle_w, List.length_cons, List.length_nil]
      rw [if_pos True.intro, e2]
      rfl
    rw [z3, RS.next_seq]
    show ((s_for _ _ _ _) _ _).seq _ = _
    unfold s_for
    rw [hws, R.ok_thenS]
    simp only
    rw [e3]
    rfl
  rcases gc_plain (S := []) (S' := S') (x := .bl true) (fun _ _ => rfl) with q | q
  · exact ⟨_, mdef_ret (ρ := [some (.rol (ns.map .int)), none, none, none, none]) rfl key q⟩
  · exact ⟨_, mdef_ret (ρ := [some (.rol (ns.map .int)), none, none, none, none]) rfl key q⟩
end K19

set_option Elab.async false
set_option linter.all false
set_option maxRecDepth 100000
set_option maxHeartbeats 0
namespace K19
open PySem PySem.Spec PyProof.Rows L2 Ev
def fn : List He.DefD := [defD "_law_draw" (top 13), defD "_law_feed" (top 12), defD "_law_fields" (top 16), defD "_law_grow" (top 19), defD "_law_raise" (top 15), defD "_law_same" (top 14), defD "_law_words_of" (top 17), defD "_law_right" (top 20), defD "_law_thing" (top 18), defD "law" (top 21), metD "NoNumber" "__init__" "NoNumber.__init__" (inClass (top 2) 0), metD "NoStars" "__init__" "NoStars.__init__" (inClass (top 3) 0), metD "NoRow" "__init__" "NoRow.__init__" (inClass (top 4) 0), metD "NoPage" "__init__" "NoPage.__init__" (inClass (top 5) 0), metD "NoPaper" "__init__" "NoPaper.__init__" (inClass (top 6) 0), metD "NoWorld" "__init__" "NoWorld.__init__" (inClass (top 7) 0), metD "NoBack" "__init__" "NoBack.__init__" (inClass (top 8) 0), metD "NoText" "__init__" "NoText.__init__" (inClass (top 9) 0), metD "NoLine" "__init__" "NoLine.__init__" (inClass (top 10) 0)]
def fa : List He.Fa := [.glo "_law_draw", .glo "_law_feed", .glo "_law_fields", .glo "_law_grow", .glo "_law_raise", .glo "_law_same", .glo "_law_words_of", .glo "_law_right", .glo "_law_thing", .glo "law", .free "ValueError", .free "abs", .free "all", .free "bool", .free "int", .free "isinstance", .free "len", .free "list", .free "range", .free "str", .free "tuple", .glo "NoteError", .glo "NoNumber", .glo "NoStars", .glo "NoRow", .glo "NoPage", .glo "NoPaper", .glo "NoWorld", .glo "NoBack", .glo "NoText", .glo "NoLine"]
def ck : List Ck := [ckBase, tabCk errs "NoteError", errB "NoNumber" fs_NoNumber, errB "NoStars" fs_NoStars, errB "NoRow" fs_NoRow, errB "NoPage" fs_NoPage, errB "NoPaper" fs_NoPaper, errB "NoWorld" fs_NoWorld, errB "NoBack" fs_NoBack, errB "NoText" fs_NoText, errB "NoLine" fs_NoLine, (fun K => kn_line.all fun c => decide (c ∈ errs) && eqV (PySem.W.findIn K (.ref (He.ga K c)) "line") (some none)), (fun K => kn_many.all fun c => decide (c ∈ errs) && eqV (PySem.W.findIn K (.ref (He.ga K c)) "many") (some none)), (fun K => kn_name.all fun c => decide (c ∈ errs) && eqV (PySem.W.findIn K (.ref (He.ga K c)) "name") (some none)), (fun K => kn_number.all fun c => decide (c ∈ errs) && eqV (PySem.W.findIn K (.ref (He.ga K c)) "number") (some none)), (fun K => kn_place.all fun c => decide (c ∈ errs) && eqV (PySem.W.findIn K (.ref (He.ga K c)) "place") (some none)), (fun K => kn_row.all fun c => decide (c ∈ errs) && eqV (PySem.W.findIn K (.ref (He.ga K c)) "row") (some none)), (fun K => kn_word.all fun c => decide (c ∈ errs) && eqV (PySem.W.findIn K (.ref (He.ga K c)) "word") (some none))]
section
variable {P : Program} {w : World} {K : PySem.W.Frag} {mg : Str → Option Value} {base : Heap} {f C C0 : Addr} {fd : FuncData}
theorem sci_NoNumber : FnScope ["self", "number"] ["self", "number"] (defScope (inClass (top 2) 0)) := ⟨rfl, rfl, rfl, by decide +kernel, rfl, by decide +kernel, by decide +kernel⟩
theorem ini_NoNumber (B : BaseErr K mg C0) (F : FunD K "__init__" "NoNumber.__init__" (defArgs (inClass (top 2) 0)) (defBody (inClass (top 2) 0)) (defScope (inClass (top 2) 0)) [] [] f fd) (T : OexC K C) (hn : ∀ x ∈ fs_NoNumber, PySem.W.findIn K (.ref C) x = some none) : FnOk P w K mg base CX0 1 f fd ["self", "number"] (spI C fs_NoNumber) :=
  F.ok sci_NoNumber (fun vs H Q E h => by obtain ⟨a, xs, rfl, hl, _⟩ := h; simp [hl]) (fun cdv A outer s H vs Q E hr h => ⟨tI K "a number without a place" fs_NoNumber, by
    show PSs _ _ (tSeq (tDrop (tVeI K (tCons (tVar 0) (tCons (tC (.str "a number without a place")) tNil)))) (tOst K "number" (tVar 0) (tVar 1)))
    exact (pss_cons (ps_expr (pe_cinit B rfl (pa_cons (pv 0) (pa_cons pe_str pa_nil)))) (pss_one (ps_ost (pv 0) (pv 1)))), tI_ok T hn h⟩)
theorem sci_NoStars : FnScope ["self", "many"] ["self", "many"] (defScope (inClass (top 3) 0)) := ⟨rfl, rfl, rfl, by decide +kernel, rfl, by decide +kernel, by decide +kernel⟩
theorem ini_NoStars (B : BaseErr K mg C0) (F : FunD K "__init__" "NoStars.__init__" (defArgs (inClass (top 3) 0)) (defBody (inClass (top 3) 0)) (defScope (inClass (top 3) 0)) [] [] f fd) (T : OexC K C) (hn : ∀ x ∈ fs_NoStars, PySem.W.findIn K (.ref C) x = some none) : FnOk P w K mg base CX0 1 f fd ["self", "many"] (spI C fs_NoStars) :=
  F.ok sci_NoStars (fun vs H Q E h => by obtain ⟨a, xs, rfl, hl, _⟩ := h; simp [hl]) (fun cdv A outer s H vs Q E hr h => ⟨tI K "too few stars" fs_NoStars, by
    show PSs _ _ (tSeq (tDrop (tVeI K (tCons (tVar 0) (tCons (tC (.str "too few stars")) tNil)))) (tOst K "many" (tVar 0) (tVar 1)))
    exact (pss_cons (ps_expr (pe_cinit B rfl (pa_cons (pv 0) (pa_cons pe_str pa_nil)))) (pss_one (ps_ost (pv 0) (pv 1)))), tI_ok T hn h⟩)
theorem sci_NoRow : FnScope ["self", "place"] ["self", "place"] (defScope (inClass (top 4) 0)) := ⟨rfl, rfl, rfl, by decide +kernel, rfl, by decide +kernel, by decide +kernel⟩
theorem ini_NoRow (B : BaseErr K mg C0) (F : FunD K "__init__" "NoRow.__init__" (defArgs (inClass (top 4) 0)) (defBody (inClass (top 4) 0)) (defScope (inClass (top 4) 0)) [] [] f fd) (T : OexC K C) (hn : ∀ x ∈ fs_NoRow, PySem.W.findIn K (.ref C) x = some none) : FnOk P w K mg base CX0 1 f fd ["self", "place"] (spI C fs_NoRow) :=
  F.ok sci_NoRow (fun vs H Q E h => by obtain ⟨a, xs, rfl, hl, _⟩ := h; simp [hl]) (fun cdv A outer s H vs Q E hr h => ⟨tI K "no row that can be read" fs_NoRow, by
    show PSs _ _ (tSeq (tDrop (tVeI K (tCons (tVar 0) (tCons (tC (.str "no row that can be read")) tNil)))) (tOst K "place" (tVar 0) (tVar 1)))
    exact (pss_cons (ps_expr (pe_cinit B rfl (pa_cons (pv 0) (pa_cons pe_str pa_nil)))) (pss_one (ps_ost (pv 0) (pv 1)))), tI_ok T hn h⟩)
theorem sci_NoPage : FnScope ["self", "word", "name"] ["self", "word", "name"] (defScope (inClass (top 5) 0)) := ⟨rfl, rfl, rfl, by decide +kernel, rfl, by decide +kernel, by decide +kernel⟩
theorem ini_NoPage (B : BaseErr K mg C0) (F : FunD K "__init__" "NoPage.__init__" (defArgs (inClass (top 5) 0)) (defBody (inClass (top 5) 0)) (defScope (inClass (top 5) 0)) [] [] f fd) (T : OexC K C) (hn : ∀ x ∈ fs_NoPage, PySem.W.findIn K (.ref C) x = some none) : FnOk P w K mg base CX0 1 f fd ["self", "word", "name"] (spI C fs_NoPage) :=
  F.ok sci_NoPage (fun vs H Q E h => by obtain ⟨a, xs, rfl, hl, _⟩ := h; simp [hl]) (fun cdv A outer s H vs Q E hr h => ⟨tI K "no such page" fs_NoPage, by
    show PSs _ _ (tSeq (tDrop (tVeI K (tCons (tVar 0) (tCons (tC (.str "no such page")) tNil)))) (tSeq (tOst K "word" (tVar 0) (tVar 1)) (tOst K "name" (tVar 0) (tVar 2))))
    exact (pss_cons (ps_expr (pe_cinit B rfl (pa_cons (pv 0) (pa_cons pe_str pa_nil)))) (pss_cons (ps_ost (pv 0) (pv 1)) (pss_one (ps_ost (pv 0) (pv 2))))), tI_ok T hn h⟩)
theorem sci_NoPaper : FnScope ["self", "word", "place"] ["self", "word", "place"] (defScope (inClass (top 6) 0)) := ⟨rfl, rfl, rfl, by decide +kernel, rfl, by decide +kernel, by decide +kernel⟩
theorem ini_NoPaper (B : BaseErr K mg C0) (F : FunD K "__init__" "NoPaper.__init__" (defArgs (inClass (top 6) 0)) (defBody (inClass (top 6) 0)) (defScope (inClass (top 6) 0)) [] [] f fd) (T : OexC K C) (hn : ∀ x ∈ fs_NoPaper, PySem.W.findIn K (.ref C) x = some none) : FnOk P w K mg base CX0 1 f fd ["self", "word", "place"] (spI C fs_NoPaper) :=
  F.ok sci_NoPaper (fun vs H Q E h => by obtain ⟨a, xs, rfl, hl, _⟩ := h; simp [hl]) (fun cdv A outer s H vs Q E hr h => ⟨tI K "no such paper" fs_NoPaper, by
    show PSs _ _ (tSeq (tDrop (tVeI K (tCons (tVar 0) (tCons (tC (.str "no such paper")) tNil)))) (tSeq (tOst K "word" (tVar 0) (tVar 1)) (tOst K "place" (tVar 0) (tVar 2))))
    exact (pss_cons (ps_expr (pe_cinit B rfl (pa_cons (pv 0) (pa_cons pe_str pa_nil)))) (pss_cons (ps_ost (pv 0) (pv 1)) (pss_one (ps_ost (pv 0) (pv 2))))), tI_ok T hn h⟩)
theorem sci_NoWorld : FnScope ["self", "word"] ["self", "word"] (defScope (inClass (top 7) 0)) := ⟨rfl, rfl, rfl, by decide +kernel, rfl, by decide +kernel, by decide +kernel⟩
theorem ini_NoWorld (B : BaseErr K mg C0) (F : FunD K "__init__" "NoWorld.__init__" (defArgs (inClass (top 7) 0)) (defBody (inClass (top 7) 0)) (defScope (inClass (top 7) 0)) [] [] f fd) (T : OexC K C) (hn : ∀ x ∈ fs_NoWorld, PySem.W.findIn K (.ref C) x = some none) : FnOk P w K mg base CX0 1 f fd ["self", "word"] (spI C fs_NoWorld) :=
  F.ok sci_NoWorld (fun vs H Q E h => by obtain ⟨a, xs, rfl, hl, _⟩ := h; simp [hl]) (fun cdv A outer s H vs Q E hr h => ⟨tI K "no world suits" fs_NoWorld, by
    show PSs _ _ (tSeq (tDrop (tVeI K (tCons (tVar 0) (tCons (tC (.str "no world suits")) tNil)))) (tOst K "word" (tVar 0) (tVar 1)))
    exact (pss_cons (ps_expr (pe_cinit B rfl (pa_cons (pv 0) (pa_cons pe_str pa_nil)))) (pss_one (ps_ost (pv 0) (pv 1)))), tI_ok T hn h⟩)
theorem sci_NoBack : FnScope ["self"] ["self"] (defScope (inClass (top 8) 0)) := ⟨rfl, rfl, rfl, by decide +kernel, rfl, by decide +kernel, by decide +kernel⟩
theorem ini_NoBack (B : BaseErr K mg C0) (F : FunD K "__init__" "NoBack.__init__" (defArgs (inClass (top 8) 0)) (defBody (inClass (top 8) 0)) (defScope (inClass (top 8) 0)) [] [] f fd) (T : OexC K C) (hn : ∀ x ∈ fs_NoBack, PySem.W.findIn K (.ref C) x = some none) : FnOk P w K mg base CX0 1 f fd ["self"] (spI C fs_NoBack) :=
  F.ok sci_NoBack (fun vs H Q E h => by obtain ⟨a, xs, rfl, hl, _⟩ := h; simp [hl]) (fun cdv A outer s H vs Q E hr h => ⟨tI K "nothing to take back" fs_NoBack, by
    show PSs _ _ (tDrop (tVeI K (tCons (tVar 0) (tCons (tC (.str "nothing to take back")) tNil))))
    exact (pss_one (ps_expr (pe_cinit B rfl (pa_cons (pv 0) (pa_cons pe_str pa_nil))))), tI_ok T hn h⟩)
theorem sci_NoText : FnScope ["self", "row", "word"] ["self", "row", "word"] (defScope (inClass (top 9) 0)) := ⟨rfl, rfl, rfl, by decide +kernel, rfl, by decide +kernel, by decide +kernel⟩
theorem ini_NoText (B : BaseErr K mg C0) (F : FunD K "__init__" "NoText.__init__" (defArgs (inClass (top 9) 0)) (defBody (inClass (top 9) 0)) (defScope (inClass (top 9) 0)) [] [] f fd) (T : OexC K C) (hn : ∀ x ∈ fs_NoText, PySem.W.findIn K (.ref C) x = some none) : FnOk P w K mg base CX0 1 f fd ["self", "row", "word"] (spI C fs_NoText) :=
  F.ok sci_NoText (fun vs H Q E h => by obtain ⟨a, xs, rfl, hl, _⟩ := h; simp [hl]) (fun cdv A outer s H vs Q E hr h => ⟨tI K "a text that writes no such thing" fs_NoText, by
    show PSs _ _ (tSeq (tDrop (tVeI K (tCons (tVar 0) (tCons (tC (.str "a text that writes no such thing")) tNil)))) (tSeq (tOst K "row" (tVar 0) (tVar 1)) (tOst K "word" (tVar 0) (tVar 2))))
    exact (pss_cons (ps_expr (pe_cinit B rfl (pa_cons (pv 0) (pa_cons pe_str pa_nil)))) (pss_cons (ps_ost (pv 0) (pv 1)) (pss_one (ps_ost (pv 0) (pv 2))))), tI_ok T hn h⟩)
theorem sci_NoLine : FnScope ["self", "line"] ["self", "line"] (defScope (inClass (top 10) 0)) := ⟨rfl, rfl, rfl, by decide +kernel, rfl, by decide +kernel, by decide +kernel⟩
theorem ini_NoLine (B : BaseErr K mg C0) (F : FunD K "__init__" "NoLine.__init__" (defArgs (inClass (top 10) 0)) (defBody (inClass (top 10) 0)) (defScope (inClass (top 10) 0)) [] [] f fd) (T : OexC K C) (hn : ∀ x ∈ fs_NoLine, PySem.W.findIn K (.ref C) x = some none) : FnOk P w K mg base CX0 1 f fd ["self", "line"] (spI C fs_NoLine) :=
  F.ok sci_NoLine (fun vs H Q E h => by obtain ⟨a, xs, rfl, hl, _⟩ := h; simp [hl]) (fun cdv A outer s H vs Q E hr h => ⟨tI K "a line that a desk does not know" fs_NoLine, by
    show PSs _ _ (tSeq (tDrop (tVeI K (tCons (tVar 0) (tCons (tC (.str "a line that a desk does not know")) tNil)))) (tOst K "line" (tVar 0) (tVar 1)))
    exact (pss_cons (ps_expr (pe_cinit B rfl (pa_cons (pv 0) (pa_cons pe_str pa_nil)))) (pss_one (ps_ost (pv 0) (pv 1)))), tI_ok T hn h⟩)
end
theorem G_of {P : Program} {w : World} {K : PySem.W.Frag} {h : Heap} {mg : Str → Option Value} (X : K.In h) (N : h.Ns mainGlobals mg) (c : SaysX fa fn ck K) : G P w K mg := by
  have B : BaseErr K mg (He.ga K "NoteError") := ckBase_ok (c.glo X N 21) (c.chk 0)
  obtain ⟨fd_NoNumber, F_NoNumber⟩ := c.d.def_ 10 (d := metD "NoNumber" "__init__" "NoNumber.__init__" (inClass (top 2) 0)) rfl
  have e_NoNumber : ∀ base, ErrX P w K mg base "NoNumber" fs_NoNumber (He.ga K "NoNumber") := fun base => errX_of (ps := ["self", "number"]) (c.glo X N 22) (c.chk 2) (fun T hn => ini_NoNumber B F_NoNumber T hn) (FunD.bindsN F_NoNumber fun _ _ _ _ _ _ us hl => match us, hl with | [_, _], _ => rfl)
  obtain ⟨fd_NoStars, F_NoStars⟩ := c.d.def_ 11 (d := metD "NoStars" "__init__" "NoStars.__init__" (inClass (top 3) 0)) rfl
  have e_NoStars : ∀ base, ErrX P w K mg base "NoStars" fs_NoStars (He.ga K "NoStars") := fun base => errX_of (ps := ["self", "many"]) (c.glo X N 23) (c.chk 3) (fun T hn => ini_NoStars B F_NoStars T hn) (FunD.bindsN F_NoStars fun _ _ _ _ _ _ us hl => match us, hl with | [_, _], _ => rfl)
  obtain ⟨fd_NoRow, F_NoRow⟩ := c.d.def_ 12 (d := metD "NoRow" "__init__" "NoRow.__init__" (inClass (top 4) 0)) rfl
  have e_NoRow : ∀ base, ErrX P w K mg base "NoRow" fs_NoRow (He.ga K "NoRow") := fun base => errX_of (ps := ["self", "place"]) (c.glo X N 24) (c.chk 4) (fun T hn => ini_NoRow B F_NoRow T hn) (FunD.bindsN F_NoRow fun _ _ _ _ _ _ us hl => match us, hl with | [_, _], _ => rfl)
  obtain ⟨fd_NoPage, F_NoPage⟩ := c.d.def_ 13 (d := metD "NoPage" "__init__" "NoPage.__init__" (inClass (top 5) 0)) rfl
  have e_NoPage : ∀ base, ErrX P w K mg base "NoPage" fs_NoPage (He.ga K "NoPage") := fun base => errX_of (ps := ["self", "word", "name"]) (c.glo X N 25) (c.chk 5) (fun T hn => ini_NoPage B F_NoPage T hn) (FunD.bindsN F_NoPage fun _ _ _ _ _ _ us hl => match us, hl with | [_, _, _], _ => rfl)
  obtain ⟨fd_NoPaper, F_NoPaper⟩ := c.d.def_ 14 (d := metD "NoPaper" "__init__" "NoPaper.__init__" (inClass (top 6) 0)) rfl
  have e_NoPaper : ∀ base, ErrX P w K mg base "NoPaper" fs_NoPaper (He.ga K "NoPaper") := fun base => errX_of (ps := ["self", "word", "place"]) (c.glo X N 26) (c.chk 6) (fun T hn => ini_NoPaper B F_NoPaper T hn) (FunD.bindsN F_NoPaper fun _ _ _ _ _ _ us hl => match us, hl with | [_, _, _], _ => rfl)
  obtain ⟨fd_NoWorld, F_NoWorld⟩ := c.d.def_ 15 (d := metD "NoWorld" "__init__" "NoWorld.__init__" (inClass (top 7) 0)) rfl
  have e_NoWorld : ∀ base, ErrX P w K mg base "NoWorld" fs_NoWorld (He.ga K "NoWorld") := fun base => errX_of (ps := ["self", "word"]) (c.glo X N 27) (c.chk 7) (fun T hn => ini_NoWorld B F_NoWorld T hn) (FunD.bindsN F_NoWorld fun _ _ _ _ _ _ us hl => match us, hl with | [_, _], _ => rfl)
  obtain ⟨fd_NoBack, F_NoBack⟩ := c.d.def_ 16 (d := metD "NoBack" "__init__" "NoBack.__init__" (inClass (top 8) 0)) rfl
  have e_NoBack : ∀ base, ErrX P w K mg base "NoBack" fs_NoBack (He.ga K "NoBack") := fun base => errX_of (ps := ["self"]) (c.glo X N 28) (c.chk 8) (fun T hn => ini_NoBack B F_NoBack T hn) (FunD.bindsN F_NoBack fun _ _ _ _ _ _ us hl => match us, hl with | [_], _ => rfl)
  obtain ⟨fd_NoText, F_NoText⟩ := c.d.def_ 17 (d := metD "NoText" "__init__" "NoText.__init__" (inClass (top 9) 0)) rfl
  have e_NoText : ∀ base, ErrX P w K mg base "NoText" fs_NoText (He.ga K "NoText") := fun base => errX_of (ps := ["self", "row", "word"]) (c.glo X N 29) (c.chk 9) (fun T hn => ini_NoText B F_NoText T hn) (FunD.bindsN F_NoText fun _ _ _ _ _ _ us hl => match us, hl with | [_, _, _], _ => rfl)
  obtain ⟨fd_NoLine, F_NoLine⟩ := c.d.def_ 18 (d := metD "NoLine" "__init__" "NoLine.__init__" (inClass (top 10) 0)) rfl
  have e_NoLine : ∀ base, ErrX P w K mg base "NoLine" fs_NoLine (He.ga K "NoLine") := fun base => errX_of (ps := ["self", "line"]) (c.glo X N 30) (c.chk 10) (fun T hn => ini_NoLine B F_NoLine T hn) (FunD.bindsN F_NoLine fun _ _ _ _ _ _ us hl => match us, hl with | [_, _], _ => rfl)
  obtain ⟨fd__law_draw, F__law_draw⟩ := c.d.def_ 0 (d := defD "_law_draw" (top 13)) rfl
  have f__law_draw : FnS K mg "_law_draw" (top 13) ps_law_draw := fnS_of (c.glo X N 0) F__law_draw fun _ _ _ _ _ _ us hl => match us, hl with | [_, _], _ => rfl
  obtain ⟨fd__law_feed, F__law_feed⟩ := c.d.def_ 1 (d := defD "_law_feed" (top 12)) rfl
  have f__law_feed : FnS K mg "_law_feed" (top 12) ps_law_feed := fnS_of (c.glo X N 1) F__law_feed fun _ _ _ _ _ _ us hl => match us, hl with | [_], _ => rfl
  obtain ⟨fd__law_fields, F__law_fields⟩ := c.d.def_ 2 (d := defD "_law_fields" (top 16)) rfl
  have f__law_fields : FnS K mg "_law_fields" (top 16) ps_law_fields := fnS_of (c.glo X N 2) F__law_fields fun _ _ _ _ _ _ us hl => match us, hl with | [_, _], _ => rfl
  obtain ⟨fd__law_grow, F__law_grow⟩ := c.d.def_ 3 (d := defD "_law_grow" (top 19)) rfl
  have f__law_grow : FnS K mg "_law_grow" (top 19) ps_law_grow := fnS_of (c.glo X N 3) F__law_grow fun _ _ _ _ _ _ us hl => match us, hl with | [_], _ => rfl
  obtain ⟨fd__law_raise, F__law_raise⟩ := c.d.def_ 4 (d := defD "_law_raise" (top 15)) rfl
  have f__law_raise : FnS K mg "_law_raise" (top 15) ps_law_raise := fnS_of (c.glo X N 4) F__law_raise fun _ _ _ _ _ _ us hl => match us, hl with | [_, _, _], _ => rfl
  obtain ⟨fd__law_same, F__law_same⟩ := c.d.def_ 5 (d := defD "_law_same" (top 14)) rfl
  have f__law_same : FnS K mg "_law_same" (top 14) ps_law_same := fnS_of (c.glo X N 5) F__law_same fun _ _ _ _ _ _ us hl => match us, hl with | [_, _], _ => rfl
  obtain ⟨fd__law_words_of, F__law_words_of⟩ := c.d.def_ 6 (d := defD "_law_words_of" (top 17)) rfl
  have f__law_words_of : FnS K mg "_law_words_of" (top 17) ps_law_words_of := fnS_of (c.glo X N 6) F__law_words_of fun _ _ _ _ _ _ us hl => match us, hl with | [_], _ => rfl
  obtain ⟨fd__law_right, F__law_right⟩ := c.d.def_ 7 (d := defD "_law_right" (top 20)) rfl
  have f__law_right : FnS K mg "_law_right" (top 20) ps_law_right := fnS_of (c.glo X N 7) F__law_right fun _ _ _ _ _ _ us hl => match us, hl with | [_, _, _], _ => rfl
  obtain ⟨fd__law_thing, F__law_thing⟩ := c.d.def_ 8 (d := defD "_law_thing" (top 18)) rfl
  have f__law_thing : FnS K mg "_law_thing" (top 18) ps_law_thing := fnS_of (c.glo X N 8) F__law_thing fun _ _ _ _ _ _ us hl => match us, hl with | [_, _], _ => rfl
  obtain ⟨fd_law, F_law⟩ := c.d.def_ 9 (d := defD "law" (top 21)) rfl
  have f_law : FnS K mg "law" (top 21) pslaw := fnS_of (c.glo X N 9) F_law fun _ _ _ _ _ _ us hl => match us, hl with | [_], _ => rfl
  have hg : ∀ d ∈ errs, mg d = some (.ref (He.ga K d)) := fun d hd => by
    simp only [errs, List.mem_cons, List.not_mem_nil, or_false] at hd
    rcases hd with rfl | rfl | rfl | rfl | rfl | rfl | rfl | rfl | rfl
    · exact c.glo X N 22
    · exact c.glo X N 23
    · exact c.glo X N 24
    · exact c.glo X N 25
    · exact c.glo X N 26
    · exact c.glo X N 27
    · exact c.glo X N 28
    · exact c.glo X N 29
    · exact c.glo X N 30
  have hx : ∀ d ∈ errs, ExK K (He.ga K d) ∧ XfC K (He.ga K d) := fun d hd => by
    simp only [errs, List.mem_cons, List.not_mem_nil, or_false] at hd
    rcases hd with rfl | rfl | rfl | rfl | rfl | rfl | rfl | rfl | rfl
    · exact ⟨(e_NoNumber h).x, (e_NoNumber h).f⟩
    · exact ⟨(e_NoStars h).x, (e_NoStars h).f⟩
    · exact ⟨(e_NoRow h).x, (e_NoRow h).f⟩
    · exact ⟨(e_NoPage h).x, (e_NoPage h).f⟩
    · exact ⟨(e_NoPaper h).x, (e_NoPaper h).f⟩
    · exact ⟨(e_NoWorld h).x, (e_NoWorld h).f⟩
    · exact ⟨(e_NoBack h).x, (e_NoBack h).f⟩
    · exact ⟨(e_NoText h).x, (e_NoText h).f⟩
    · exact ⟨(e_NoLine h).x, (e_NoLine h).f⟩
  have hk : ∀ {kn : List Str} {x : Str}, (kn.all fun c => decide (c ∈ errs) && eqV (PySem.W.findIn K (.ref (He.ga K c)) x) (some none)) = true → ∀ c ∈ kn, c ∈ errs ∧ PySem.W.findIn K (.ref (He.ga K c)) x = some none := fun q c hc => by
    obtain ⟨q1, q2⟩ := He.ba (List.all_eq_true.mp q c hc)
    exact ⟨of_decide_eq_true q1, of_decide_eq_true q2⟩
  exact ⟨f__law_draw, f__law_feed, f__law_fields, f__law_grow, f__law_raise, f__law_same, f__law_words_of, f__law_right, f__law_thing, f_law, (c.free X N 10), (c.free X N 11), (c.free X N 12), (c.free X N 13), (c.free X N 14), (c.free X N 15), (c.free X N 16), (c.free X N 17), (c.free X N 18), (c.free X N 19), (c.free X N 20), ⟨hg, c.glo X N 21, hx, c.chk 1⟩, e_NoNumber, e_NoStars, e_NoRow, e_NoPage, e_NoPaper, e_NoWorld, e_NoBack, e_NoText, e_NoLine, (hk (c.chk 11)), (hk (c.chk 12)), (hk (c.chk 13)), (hk (c.chk 14)), (hk (c.chk 15)), (hk (c.chk 16)), (hk (c.chk 17))⟩
theorem law_end {P : Program} {w : World} {K : PySem.W.Frag} {h : Heap} {mg : Str → Option Value} {f : Addr} (X : K.In h) (N : h.Ns mainGlobals mg) (c : SaysX fa fn ck K) (hmg : mg "law" = some (.ref f)) :
    ∃ fd : FuncData, (∀ (s : Shared) (u : Value), BindsTo s fd ⟨[u], []⟩ [("_law_script", u)]) ∧ ∀ base : Heap, K.In base → base.Ns mainGlobals mg → FnOk P w K mg base CX0 16 f fd ["_law_script"] (spLaw K mg mlaw) := by
  obtain ⟨fd, F⟩ := c.d.def_ 9 (d := defD "law" (top 21)) rfl
  have e := hmg.symm.trans (c.glo X N 9)
  cases e
  refine ⟨fd, fun s u => FunD.bindsA (ps := ["_law_script"]) F (fun _ _ _ _ _ _ us hl => match us, hl with | [_], _ => rfl) s [u] rfl, fun base _ _ => ?_⟩
  exact to0 (does_of (fun_of F) sclaw fun cdv A outer s H E hr tk => blaw_ok (G_of X N c) _ _ ⟨rfl, rfl, rfl, rfl, rfl, rfl, rfl, sclaw.nd, sclaw.kind, rfl⟩ ⟨rfl, rfl⟩ ⟨hr, rfl, tk, L2.passes_of rfl⟩)
abbrev Rr : PySem.W.OpenRow := PySem.W.OpenLaw.row PySem.Challenge.rw_pressnotes_k19_refusals_apart
def names : List Str := ["NoteError", "NoNumber", "NoStars", "NoRow", "NoPage", "NoPaper", "NoWorld", "NoBack", "NoText", "NoLine", "_law_feed", "_law_draw", "_law_same", "_law_raise", "_law_fields", "_law_words_of", "_law_thing", "_law_grow", "_law_right"]
abbrev hk : PySem.W.Hook := hookX 5 fa fn ck
def ob (s : PySem.W.SharedT) : AlX := obsXG 5 fa fn ck (HandSHeadRun.getT s)
theorem ob_eq (s : PySem.W.SharedT) : ob s = hk.obs s.abs := obsXG_eq (HandSHeadRun.getT_eq s)
end K19

set_option Elab.async false
set_option linter.all false
set_option maxRecDepth 100000
set_option maxHeartbeats 0
namespace K19
open PySem PySem.Spec PyProof.Rows L2 Ev
theorem run (w : World) : HandSHeadRun.RunEq Rr (PySem.W.view Rr.prog [21]) hk ob 4000 names w := by
  intro os
  kernel_rfl
end K19

set_option Elab.async false
set_option linter.all false
set_option maxRecDepth 100000
set_option maxHeartbeats 0
open PySem PySem.W PySem.Calls PyProof.Rows
theorem PySem.Challenge.cw_pressnotes_k19_refusals_apart_holds : PySem.Challenge.rw_pressnotes_k19_refusals_apart.Holds := by
  w_on; o_law
  refine HandSHeadRun.head_any (r := OpenLaw.row PySem.Challenge.rw_pressnotes_k19_refusals_apart) (q := view (OpenLaw.row PySem.Challenge.rw_pressnotes_k19_refusals_apart).prog [21]) (H := K19.hk) (ob := K19.ob) (M := 4000) (loose := K19.names) (d := HandSHeadRun.topDef (OpenLaw.row PySem.Challenge.rw_pressnotes_k19_refusals_apart).prog 21) (kwd := []) K19.ob_eq
    (by kernel_rfl) (fun s => by kernel_rfl) K19.run (by kernel_rfl) (by kernel_rfl) (by kernel_rfl) (by rfl) (by first | assumption | decide +kernel) (by decide +kernel) ⟨rfl, rfl, rfl, rfl, rfl, by decide +kernel⟩ ?hw ?hc
  case hw => w_witness2
  case hc =>
    refine L2.walk_ofE (l := PySem.Challenge.rw_pressnotes_k19_refusals_apart) (n := 63) (k := 16) (x := "_law_script") (CX := L2.CX0) rfl (by decide) (by kernel_rfl) ⟨rfl, by decide, by decide⟩ ?F (fun _ _ _ _ z => z)
    intro w mg fa h Y G hmg0
    obtain ⟨K, KX, c⟩ := Y
    have hmg : mg ("law" : PySem.Str) = some (.ref fa) := by
      have e : (HandSHeadRun.topDef (OpenLaw.row PySem.Challenge.rw_pressnotes_k19_refusals_apart).prog 21).name = ("law" : PySem.Str) := by kernel_rfl
      rw [← e]
      exact hmg0
    obtain ⟨fd, hb, hF⟩ := K19.law_end (P := (PySem.Challenge.rw_pressnotes_k19_refusals_apart).prog) (w := w) KX G c hmg
    exact ⟨K, fd, Ev.spLaw K mg K19.mlaw, KX, hb, fun H a ns hl hO hS => Ev.law_sp (K19.law_ok ns hl) hO hS, hF⟩

