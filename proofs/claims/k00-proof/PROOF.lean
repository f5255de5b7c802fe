import PyProof.Rows.All
import Wide.All
import OpenK.AllK
import Wide.FinOn
import HandS.ForMost
import HandS.Exc
import HandS.ExcOwn
import HandS.WordsExc
import HandS.CallSlots
import HandS.Lambda
import HandS.Defaults
import HandS.Wide
import HandS.TupAny
import HandS.IsInst
import HandS.Flow
import HandS.Small
import HandS.Star
import HandS.ClsMeth
import HandS.SlotsOwn
import HandS.OwnEq
import PyProof.EqKinds
import KE.SortUse
import KE.GoesEnum
import KE.GoesMore
import HandS.Style
import HandS.HeadHook2
import HandS.HeadHook4
import HandS.Codes
import PySem.Challenge.RW_speakanew_k00_sets_of_stretches_and_sets
import HandS.Head0
import HandS.Head1
import HandS.Head2
import HandS.HeadEnd
import HandS.HeadWalk
import HandS.HeadHook1
import HandS.HeadHook3
set_option Elab.async false
set_option linter.all false
set_option maxRecDepth 100000
set_option maxHeartbeats 4000000
/-! DL0: data, what stands for it in the abstract heap, outcomes. -/
namespace DL
open PySem PySem.Spec L2

/-- data: what a value is, objects as snapshots; a box is a thing that may change -/
inductive D where
  | non | bl (b : Bool) | int (i : Int) | str (x : Str)
  | tup (ds : List D) | lst (ds : List D)
  | ins (c : Nat) (ns : List Str) (ds : List D)
  | dk (ks : List Key) (ds : List D)
  | dt (ks : List (List Key)) (ds : List D)
  | box (n : Nat) | adr (a : Addr) | ty (n : String)
  | rol (ds : List D)
instance : Inhabited D := ⟨.non⟩

/-- where classes stand, and tables of code objects -/
structure Ly where
  ca : Nat → Addr
  tb : List (Addr × Str)
instance : CoeFun Ly (fun _ => Nat → Addr) := ⟨Ly.ca⟩
/-- no table -/
def NT (o : HO) : Prop := ∀ ps, o ≠ .tbl ps
theorem nt_lst {xs : List V} : NT (.lst xs) := fun _ h => by cases h
theorem nt_tup {xs : List V} : NT (.tup xs) := fun _ h => by cases h
theorem nt_ins {C dx : Addr} {fs : List (Str × V)} : NT (.ins C dx fs) := fun _ h => by cases h
theorem nt_dK {kvs : List (Key × V)} : NT (.dK kvs) := fun _ h => by cases h
theorem nt_dT {kvs : List (List Key × V)} : NT (.dT kvs) := fun _ h => by cases h
theorem Tabs.keep {T : List (Addr × Str)} {H H' : Hp} (t : LamX.Tabs T H) (h : ∀ b o, H b = some o → (∃ ps, o = .tbl ps) ∨ (∃ c q, o = LamX.CodeO c q) → H' b = some o) : LamX.Tabs T H' := fun p hp => by
  obtain ⟨ps, h1, h2, h3⟩ := t p hp
  refine ⟨ps, h _ _ h1 (.inl ⟨_, rfl⟩), h2, fun pos cv hc => ?_⟩
  obtain ⟨c, e1, e2⟩ := h3 pos cv hc
  exact ⟨c, e1, h _ _ e2 (.inr ⟨_, _, rfl⟩)⟩
/-- an expression's result: a value, or an object just made that nothing else knows -/
inductive R where
  | val (d : D) | new (d : D)
def R.d : R → D
  | .val d => d
  | .new d => d

inductive Out (α : Type) where
  | ok (r : α) (bx : List D)
  | exn (c : Nat) (ns : List Str) (ds : List D) (bx : List D)
  | stk
def Out.bind {α β : Type} (o : Out α) (f : α → List D → Out β) : Out β := match o with
  | .ok r bx => f r bx
  | .exn c ns ds bx => .exn c ns ds bx
  | .stk => .stk
@[simp] theorem Out.bind_ok {α β : Type} {r : α} {bx : List D} {f : α → List D → Out β} : (Out.ok r bx).bind f = f r bx := rfl
@[simp] theorem Out.bind_exn {α β : Type} {c ns ds} {bx : List D} {f : α → List D → Out β} : (Out.exn c ns ds bx : Out α).bind f = .exn c ns ds bx := rfl
@[simp] theorem Out.bind_stk {α β : Type} {f : α → List D → Out β} : (Out.stk : Out α).bind f = .stk := rfl
def Out.map {α β : Type} (f : α → β) (o : Out α) : Out β := o.bind fun r bx => .ok (f r) bx
@[simp] theorem Out.map_ok {α β : Type} {r : α} {bx : List D} {f : α → β} : (Out.ok r bx).map f = .ok (f r) bx := rfl

section
variable (K : PySem.W.Frag) (CA : Ly)
def TupAt (F : Addr → Prop) (H : Hp) (a : Addr) (vs : List V) : Prop := (F a ∧ H a = some (.tup vs)) ∨ ∀ H', SqT K H' a vs
def LstAt (F : Addr → Prop) (H : Hp) (a : Addr) (vs : List V) : Prop := F a ∧ H a = some (.lst vs)
/-- a list that is only read (the script) -/
def RolAt (F : Addr → Prop) (H : Hp) (a : Addr) (vs : List V) : Prop := (F a ∧ Rd H a (.lst vs)) ∨ ∀ H', SqL K H' a vs
mutual
def Rp (F : Addr → Prop) (μ : List Addr) (H : Hp) : D → V → Prop
  | .non, v => v = .non
  | .bl b, v => v = .bl b
  | .int i, v => v = .int i
  | .str x, v => v = .str x
  | .adr a, v => v = .ref a
  | .ty n, v => v = .ty n
  | .box n, v => ∃ a, v = .ref a ∧ μ[n]? = some a
  | .tup ds, v => ∃ a vs, v = .ref a ∧ TupAt K F H a vs ∧ Rps F μ H ds vs
  | .lst ds, v => ∃ a vs, v = .ref a ∧ LstAt F H a vs ∧ Rps F μ H ds vs
  | .rol ds, v => ∃ a vs, v = .ref a ∧ RolAt K F H a vs ∧ Rps F μ H ds vs
  | .ins c ns ds, v => ∃ a dx vs, v = .ref a ∧ F a ∧ H a = some (.ins (CA c) dx (ns.zip vs)) ∧ ns.length = ds.length ∧ Rps F μ H ds vs
  | .dk ks ds, v => ∃ a vs, v = .ref a ∧ F a ∧ H a = some (.dK (ks.zip vs)) ∧ ks.length = ds.length ∧ Rps F μ H ds vs
  | .dt ks ds, v => ∃ a vs, v = .ref a ∧ F a ∧ H a = some (.dT (ks.zip vs)) ∧ ks.length = ds.length ∧ Rps F μ H ds vs
def Rps (F : Addr → Prop) (μ : List Addr) (H : Hp) : List D → List V → Prop
  | [], [] => True
  | d :: ds, v :: vs => Rp F μ H d v ∧ Rps F μ H ds vs
  | [], _ :: _ => False
  | _ :: _, [] => False
end
/-- what stands at a box, or is just made -/
def At (F : Addr → Prop) (μ : List Addr) (H : Hp) (d : D) (a : Addr) : Prop := match d with
  | .lst ds => ∃ vs, H a = some (.lst vs) ∧ Rps K CA F μ H ds vs
  | .ins c ns ds => ∃ dx vs, H a = some (.ins (CA c) dx (ns.zip vs)) ∧ ns.length = ds.length ∧ Rps K CA F μ H ds vs
  | .dk ks ds => ∃ vs, H a = some (.dK (ks.zip vs)) ∧ ks.length = ds.length ∧ Rps K CA F μ H ds vs
  | .dt ks ds => ∃ vs, H a = some (.dT (ks.zip vs)) ∧ ks.length = ds.length ∧ Rps K CA F μ H ds vs
  | _ => False
/-- the boxes -/
structure Sx (F : Addr → Prop) (μ : List Addr) (H : Hp) (bx : List D) : Prop where
  len : bx.length = μ.length
  at_ : ∀ (n : Nat) (d : D) (a : Addr), bx[n]? = some d → μ[n]? = some a → At K CA F μ H d a
  nd : μ.Nodup
  dj : ∀ a ∈ μ, ¬ F a
  tr : ∀ a, F a → ∃ o, H a = some o
  ft : ∀ a o, F a → H a = some o → NT o
  tb : LamX.Tabs CA.tb H
/-- the slots -/
structure En (F : Addr → Prop) (μ : List Addr) (H : Hp) (ρ : List (Option D)) (σ : St) : Prop where
  len : ρ.length = σ.length
  at_ : ∀ (i : Nat) (d : D), ρ[i]? = some (some d) → ∃ v, σ[i]? = some (some v) ∧ Rp K CA F μ H d v
end
/-- nothing stands there, or a table -/
def Vac (H : Hp) (a : Addr) : Prop := ∀ o, H a = some o → ¬ NT o
theorem Vac.of {H : Hp} {a : Addr} (h : H a = none) : Vac H a := fun o q => by rw [h] at q; cases q
/-- what changes: boxes alone; what is frozen anew was not there -/
structure Ext (F : Addr → Prop) (μ : List Addr) (H : Hp) (F' : Addr → Prop) (H' : Hp) : Prop where
  up : ∀ a, F a → F' a
  fr : ∀ a, F' a → F a ∨ (Vac H a ∧ a ∉ μ)
  keep : ∀ a o, H a = some o → a ∉ μ → NT o → H' a = some o
/-- all stays -/
theorem Ext.all {F F' : Addr → Prop} {μ : List Addr} {H H' : Hp} (up : ∀ a, F a → F' a) (fr : ∀ a, F' a → F a ∨ (H a = none ∧ a ∉ μ)) (k : ∀ a o, H a = some o → a ∉ μ → H' a = some o) : Ext F μ H F' H' :=
  ⟨up, fun a h => (fr a h).imp id fun z => ⟨.of z.1, z.2⟩, fun a o h m _ => k a o h m⟩
theorem nt_or (o : HO) : (∃ ps, o = .tbl ps) ∨ NT o := by
  cases o <;> first | exact .inl ⟨_, rfl⟩ | exact .inr fun _ h => by cases h
section
variable {K : PySem.W.Frag} {CA : Ly} {F F' F'' : Addr → Prop} {μ μ' : List Addr} {H H' H'' : Hp} {bx : List D} {ρ : List (Option D)} {σ : St}
theorem Ext.refl : Ext F μ H F H := .all (fun _ h => h) (fun _ h => .inl h) fun _ _ h _ => h
theorem Ext.back (e : Ext F μ H F' H') {a : Addr} (h : Vac H' a) (hm : a ∉ μ) : Vac H a := fun o q z => h o (e.keep a o q hm z) z
theorem Ext.trans (e : Ext F μ H F' H') (e' : Ext F' μ H' F'' H'') : Ext F μ H F'' H'' :=
  ⟨fun a h => e'.up a (e.up a h), fun a h => (e'.fr a h).elim (fun z => e.fr a z) fun z => .inr ⟨e.back z.1 z.2, z.2⟩, fun a o h hm z => e'.keep a o (e.keep a o h hm z) hm z⟩
theorem At.there {d : D} {a : Addr} (h : At K CA F μ H d a) : ∃ o, H a = some o := by
  cases d with
  | lst ds => obtain ⟨_, e, _⟩ := h; exact ⟨_, e⟩
  | ins c ns ds => obtain ⟨_, _, e, _⟩ := h; exact ⟨_, e⟩
  | dk ks ds => obtain ⟨_, e, _⟩ := h; exact ⟨_, e⟩
  | dt ks ds => obtain ⟨_, e, _⟩ := h; exact ⟨_, e⟩
  | _ => exact h.elim
theorem At.nt {d : D} {a : Addr} (h : At K CA F μ H d a) : ∀ o, H a = some o → NT o := by
  intro o ho
  cases d with
  | lst ds => obtain ⟨_, e, _⟩ := h; rw [e] at ho; cases ho; exact nt_lst
  | ins c ns ds => obtain ⟨_, _, e, _⟩ := h; rw [e] at ho; cases ho; exact nt_ins
  | dk ks ds => obtain ⟨_, e, _⟩ := h; rw [e] at ho; cases ho; exact nt_dK
  | dt ks ds => obtain ⟨_, e, _⟩ := h; rw [e] at ho; cases ho; exact nt_dT
  | _ => exact h.elim
/-- what stands there is no code object and no table -/
theorem At.plain {d : D} {a : Addr} (h : At K CA F μ H d a) : ∀ o, H a = some o → ¬ ((∃ ps, o = .tbl ps) ∨ (∃ c q, o = LamX.CodeO c q)) := by
  intro o ho
  have no : ∀ (u : HO), NT u → (∀ f, u ≠ .ext f) → o = u → ¬ ((∃ ps, o = .tbl ps) ∨ (∃ c q, o = LamX.CodeO c q)) := fun u h1 h2 e z => by
    subst e
    rcases z with ⟨ps, z⟩ | ⟨c, q, z⟩
    · exact h1 ps z
    · exact h2 _ z
  cases d with
  | lst ds => obtain ⟨_, e, _⟩ := h; rw [e] at ho; cases ho; exact no _ nt_lst (fun f z => by cases z) rfl
  | ins c ns ds => obtain ⟨_, _, e, _⟩ := h; rw [e] at ho; cases ho; exact no _ nt_ins (fun f z => by cases z) rfl
  | dk ks ds => obtain ⟨_, e, _⟩ := h; rw [e] at ho; cases ho; exact no _ nt_dK (fun f z => by cases z) rfl
  | dt ks ds => obtain ⟨_, e, _⟩ := h; rw [e] at ho; cases ho; exact no _ nt_dT (fun f z => by cases z) rfl
  | _ => exact h.elim
theorem TupAt.sq {a : Addr} {vs : List V} (h : TupAt K F H a vs) : SqT K H a vs := h.elim (fun z => .inl (.inl z.2)) fun z => z H
theorem LstAt.sq {a : Addr} {vs : List V} (h : LstAt F H a vs) : SqL K H a vs := .inl (.inl h.2)
theorem RolAt.sq {a : Addr} {vs : List V} (h : RolAt K F H a vs) : SqL K H a vs := h.elim (fun z => .inl z.2) fun z => z H
/-- frozen things stay -/
def Stay (F : Addr → Prop) (H H' : Hp) : Prop := ∀ a o, F a → H a = some o → H' a = some o
theorem TupAt.mono {a : Addr} {vs : List V} (hF : ∀ a, F a → F' a) (hs : Stay F H H') (h : TupAt K F H a vs) : TupAt K F' H' a vs :=
  h.elim (fun z => .inl ⟨hF _ z.1, hs _ _ z.1 z.2⟩) .inr
theorem LstAt.mono {a : Addr} {vs : List V} (hF : ∀ a, F a → F' a) (hs : Stay F H H') (h : LstAt F H a vs) : LstAt F' H' a vs := ⟨hF _ h.1, hs _ _ h.1 h.2⟩
theorem RolAt.mono {a : Addr} {vs : List V} (hF : ∀ a, F a → F' a) (hs : Stay F H H') (h : RolAt K F H a vs) : RolAt K F' H' a vs :=
  h.elim (fun z => .inl ⟨hF _ z.1, z.2.elim (fun e => .inl (hs _ _ z.1 e)) fun ⟨o, e⟩ => .inr ⟨o, hs _ _ z.1 e⟩⟩) .inr
mutual
theorem Rp.mono (hF : ∀ a, F a → F' a) (hm : ∀ (n : Nat) (a : Addr), μ[n]? = some a → μ'[n]? = some a) (hs : Stay F H H') : ∀ {d : D} {v : V}, Rp K CA F μ H d v → Rp K CA F' μ' H' d v
  | .non, _, h => h
  | .bl _, _, h => h
  | .int _, _, h => h
  | .str _, _, h => h
  | .adr _, _, h => h
  | .ty _, _, h => h
  | .box _, _, h => let ⟨a, e, q⟩ := h; ⟨a, e, hm _ _ q⟩
  | .tup _, _, h => let ⟨a, vs, e, t, r⟩ := h; ⟨a, vs, e, t.mono hF hs, Rps.mono hF hm hs r⟩
  | .lst _, _, h => let ⟨a, vs, e, t, r⟩ := h; ⟨a, vs, e, t.mono hF hs, Rps.mono hF hm hs r⟩
  | .rol _, _, h => let ⟨a, vs, e, t, r⟩ := h; ⟨a, vs, e, t.mono hF hs, Rps.mono hF hm hs r⟩
  | .ins _ _ _, _, h => let ⟨a, dx, vs, e, f, t, l, r⟩ := h; ⟨a, dx, vs, e, hF _ f, hs _ _ f t, l, Rps.mono hF hm hs r⟩
  | .dk _ _, _, h => let ⟨a, vs, e, f, t, l, r⟩ := h; ⟨a, vs, e, hF _ f, hs _ _ f t, l, Rps.mono hF hm hs r⟩
  | .dt _ _, _, h => let ⟨a, vs, e, f, t, l, r⟩ := h; ⟨a, vs, e, hF _ f, hs _ _ f t, l, Rps.mono hF hm hs r⟩
theorem Rps.mono (hF : ∀ a, F a → F' a) (hm : ∀ (n : Nat) (a : Addr), μ[n]? = some a → μ'[n]? = some a) (hs : Stay F H H') : ∀ {ds : List D} {vs : List V}, Rps K CA F μ H ds vs → Rps K CA F' μ' H' ds vs
  | [], [], _ => trivial
  | _ :: _, _ :: _, h => ⟨Rp.mono hF hm hs h.1, Rps.mono hF hm hs h.2⟩
  | [], _ :: _, h => h.elim
  | _ :: _, [], h => h.elim
end
theorem Rps.length : ∀ {ds : List D} {vs : List V}, Rps K CA F μ H ds vs → ds.length = vs.length
  | [], [], _ => rfl
  | _ :: _, _ :: _, h => congrArg Nat.succ (Rps.length h.2)
  | [], _ :: _, h => h.elim
  | _ :: _, [], h => h.elim
theorem Rps.get : ∀ {ds : List D} {vs : List V} {i : Nat} {d : D}, Rps K CA F μ H ds vs → ds[i]? = some d → ∃ v, vs[i]? = some v ∧ Rp K CA F μ H d v
  | _ :: _, _ :: _, 0, _, h, e => by cases e; exact ⟨_, rfl, h.1⟩
  | _ :: _, _ :: _, i + 1, _, h, e => Rps.get (i := i) h.2 e
  | [], _, _, _, _, e => by cases e
  | _ :: _, [], _, _, h, _ => h.elim
theorem Rps.append : ∀ {ds ds' : List D} {vs vs' : List V}, Rps K CA F μ H ds vs → Rps K CA F μ H ds' vs' → Rps K CA F μ H (ds ++ ds') (vs ++ vs')
  | [], _, [], _, _, h' => h'
  | _ :: _, _, _ :: _, _, h, h' => ⟨h.1, Rps.append h.2 h'⟩
  | [], _, _ :: _, _, h, _ => h.elim
  | _ :: _, _, [], _, h, _ => h.elim
theorem Rps.take : ∀ {ds : List D} {vs : List V} (n : Nat), Rps K CA F μ H ds vs → Rps K CA F μ H (ds.take n) (vs.take n)
  | _, _, 0, _ => trivial
  | [], [], _ + 1, _ => trivial
  | _ :: _, _ :: _, n + 1, h => ⟨h.1, Rps.take n h.2⟩
  | [], _ :: _, _ + 1, h => h.elim
  | _ :: _, [], _ + 1, h => h.elim
theorem Rps.drop : ∀ {ds : List D} {vs : List V} (n : Nat), Rps K CA F μ H ds vs → Rps K CA F μ H (ds.drop n) (vs.drop n)
  | _, _, 0, h => h
  | [], [], _ + 1, _ => trivial
  | _ :: _, _ :: _, n + 1, h => Rps.drop n h.2
  | [], _ :: _, _ + 1, h => h.elim
  | _ :: _, [], _ + 1, h => h.elim
theorem Rps.set : ∀ {ds : List D} {vs : List V} (n : Nat) {d : D} {v : V}, Rps K CA F μ H ds vs → Rp K CA F μ H d v → Rps K CA F μ H (ds.set n d) (vs.set n v)
  | [], [], _, _, _, _, _ => trivial
  | _ :: _, _ :: _, 0, _, _, h, r => ⟨r, h.2⟩
  | _ :: _, _ :: _, n + 1, _, _, h, r => ⟨h.1, Rps.set n h.2 r⟩
  | [], _ :: _, _, _, _, h, _ => h.elim
  | _ :: _, [], _, _, _, h, _ => h.elim
theorem Rps.rev : ∀ {ds : List D} {vs : List V}, Rps K CA F μ H ds vs → Rps K CA F μ H ds.reverse vs.reverse
  | [], [], _ => trivial
  | d :: ds, v :: vs, h => by
    rw [List.reverse_cons, List.reverse_cons]
    exact Rps.append (Rps.rev h.2) ⟨h.1, trivial⟩
  | [], _ :: _, h => h.elim
  | _ :: _, [], h => h.elim
theorem Rps.last : ∀ {ds : List D} {vs : List V}, Rps K CA F μ H ds vs → Rps K CA F μ H ds.dropLast vs.dropLast := fun {ds vs} h => by
  rw [List.dropLast_eq_take, List.dropLast_eq_take, h.length]
  exact h.take _
theorem Sx.stay (s : Sx K CA F μ H bx) (e : Ext F μ H F' H') : Stay F H H' := fun a o f h => e.keep a o h (fun z => s.dj a z f) (s.ft a o f h)
theorem Rp.ext {d : D} {v : V} (s : Sx K CA F μ H bx) (e : Ext F μ H F' H') (h : Rp K CA F μ H d v) : Rp K CA F' μ H' d v := h.mono e.up (fun _ _ q => q) (s.stay e)
theorem Rps.ext {ds : List D} {vs : List V} (s : Sx K CA F μ H bx) (e : Ext F μ H F' H') (h : Rps K CA F μ H ds vs) : Rps K CA F' μ H' ds vs := h.mono e.up (fun _ _ q => q) (s.stay e)
theorem En.ext (s : Sx K CA F μ H bx) (e : Ext F μ H F' H') (h : En K CA F μ H ρ σ) : En K CA F' μ H' ρ σ :=
  ⟨h.len, fun i d q => let ⟨v, q1, q2⟩ := h.at_ i d q; ⟨v, q1, q2.ext s e⟩⟩
/-- the content of a box, where the box itself is kept -/
theorem At.mono {d : D} {a : Addr} (hF : ∀ a, F a → F' a) (hm : ∀ (n : Nat) (a : Addr), μ[n]? = some a → μ'[n]? = some a) (hs : Stay F H H') (ha : ∀ o, H a = some o → H' a = some o) (h : At K CA F μ H d a) : At K CA F' μ' H' d a := by
  cases d with
  | lst ds => obtain ⟨vs, e, r⟩ := h; exact ⟨vs, ha _ e, r.mono hF hm hs⟩
  | ins c ns ds => obtain ⟨dx, vs, e, l, r⟩ := h; exact ⟨dx, vs, ha _ e, l, r.mono hF hm hs⟩
  | dk ks ds => obtain ⟨vs, e, l, r⟩ := h; exact ⟨vs, ha _ e, l, r.mono hF hm hs⟩
  | dt ks ds => obtain ⟨vs, e, l, r⟩ := h; exact ⟨vs, ha _ e, l, r.mono hF hm hs⟩
  | _ => exact h.elim
/-- nothing of what was tracked changes: boxes stay -/
theorem Sx.same (s : Sx K CA F μ H bx) (hF : ∀ a, F a → F' a) (hj : ∀ a ∈ μ, ¬ F' a) (hT : ∀ a, F' a → ∃ o, H' a = some o ∧ NT o) (ha : ∀ a o, H a = some o → H' a = some o) : Sx K CA F' μ H' bx :=
  ⟨s.len, fun n d a h1 h2 => At.mono (h := s.at_ n d a h1 h2) (hF := hF) (hm := fun _ _ q => q) (hs := fun b o _ e => ha b o e) (ha := fun o e => ha a o e), s.nd, hj, fun a h => let ⟨o, e, _⟩ := hT a h; ⟨o, e⟩, fun a o f h => by
    obtain ⟨o', e, z⟩ := hT a f
    rw [h] at e; cases e; exact z, s.tb.ext ha⟩
/-- a new frozen object at p -/
theorem Ext.new {p : Addr} {o : HO} (s : Sx K CA F μ H bx) (hp : H p = none) : Ext F μ H (fun a => F a ∨ a = p) (upd H p o) :=
  .all (fun _ h => .inl h) (fun a h => h.elim .inl fun e => .inr ⟨e ▸ hp, fun hm => by
    obtain ⟨n, hn, e2⟩ := List.mem_iff_getElem.mp hm
    have h1 : n < bx.length := s.len ▸ hn
    obtain ⟨u, hu⟩ := (s.at_ n _ a (List.getElem?_eq_getElem h1) (by rw [List.getElem?_eq_getElem hn, e2])).there
    rw [e, hp] at hu; cases hu⟩) fun a u h hm => by rw [upd_ne (ne_of_none h hp)]; exact h
/-- .. not frozen -/
theorem Ext.tmp {p : Addr} {o : HO} (hp : H p = none) : Ext F μ H F (upd H p o) := .all (fun _ h => h) (fun a h => .inl h) fun a u h hm => by rw [upd_ne (ne_of_none h hp)]; exact h
theorem Sx.notIn (s : Sx K CA F μ H bx) {p : Addr} (hp : H p = none) : p ∉ μ := fun hm => by
  obtain ⟨n, hn, e2⟩ := List.mem_iff_getElem.mp hm
  have h1 : n < bx.length := s.len ▸ hn
  obtain ⟨u, hu⟩ := (s.at_ n _ p (List.getElem?_eq_getElem h1) (by rw [List.getElem?_eq_getElem hn, e2])).there
  rw [hp] at hu; cases hu
theorem Sx.new {p : Addr} {o : HO} (s : Sx K CA F μ H bx) (hp : H p = none) (ho : NT o := by first | exact nt_tup | exact nt_lst | exact nt_ins | exact nt_dK | exact nt_dT) : Sx K CA (fun a => F a ∨ a = p) μ (upd H p o) bx :=
  s.same (fun _ h => .inl h) (fun a hm z => z.elim (s.dj a hm) fun e => s.notIn (e ▸ hp) hm) (fun a h => by
    rcases h with h | h
    · obtain ⟨u, q⟩ := s.tr a h; exact ⟨u, by rw [upd_ne (ne_of_none q hp)]; exact q, s.ft a u h q⟩
    · exact ⟨o, by rw [h, upd_same], ho⟩) fun a u h => by rw [upd_ne (ne_of_none h hp)]; exact h
theorem Sx.tmp {p : Addr} {o : HO} (s : Sx K CA F μ H bx) (hp : H p = none) : Sx K CA F μ (upd H p o) bx :=
  s.same (fun _ h => h) s.dj (fun a h => by obtain ⟨u, q⟩ := s.tr a h; exact ⟨u, by rw [upd_ne (ne_of_none q hp)]; exact q, s.ft a u h q⟩) fun a u h => by rw [upd_ne (ne_of_none h hp)]; exact h
theorem Sx.notF (s : Sx K CA F μ H bx) {p : Addr} (hp : H p = none) : ¬ F p := fun z => by
  obtain ⟨u, q⟩ := s.tr p z
  rw [hp] at q; cases q
end
end DL

set_option Elab.async false
set_option linter.all false
set_option maxRecDepth 100000
set_option maxHeartbeats 4000000
/-! DL1: judgements: a piece of syntax and the computation that it does. -/
namespace DL
open PySem PySem.Spec L2
abbrev Sl := List (Option D)
abbrev ME := Sl → List D → Out R
abbrev MB := Sl → List D → Out Bool
abbrev MA := Sl → List D → Out (List D)
abbrev MF := List D → List D → Out R
inductive OutS where
  | nx (ρ : Sl) (bx : List D)
  | rt (r : R) (bx : List D)
  | bk (ρ : Sl) (bx : List D)
  | ct (ρ : Sl) (bx : List D)
  | exn (c : Nat) (ns : List Str) (ds : List D) (ρ : Sl) (bx : List D)
  | stk
abbrev MS := Sl → List D → OutS

section
variable (K : PySem.W.Frag) (CA : Ly)
def RRv (F' : Addr → Prop) (μ : List Addr) (H H' : Hp) : R → V → Prop
  | .val d, v => Rp K CA F' μ H' d v
  | .new d, v => ∃ a, v = .ref a ∧ Vac H a ∧ a ∉ μ ∧ ¬ F' a ∧ At K CA F' μ H' d a
def ExAt (F : Addr → Prop) (μ : List Addr) (H : Hp) (c : Nat) (ns : List Str) (ds : List D) (cls : Value) (dx : Option Addr) : Prop :=
  cls = .ref (CA c) ∧ ∃ a vs, dx = some a ∧ H a = some (.xd (ns.zip vs)) ∧ ns.length = ds.length ∧ Rps K CA F μ H ds vs
def OkG {α β : Type} (W : WX) (F : Addr → Prop) (μ : List Addr) (σ : L2.St) (H : Hp) (rel : (Addr → Prop) → Hp → α → β → Prop) (o : Out α) (Q : β → Hp → Prop) : Prop := match o with
  | .ok r bx' => ∀ v F' H', Ext F μ H F' H' → Sx K CA F' μ H' bx' → rel F' H' r v → Q v H'
  | .exn c ns ds bx' => ∀ cls dx F' H', Ext F μ H F' H' → Sx K CA F' μ H' bx' → ExAt K CA F' μ H' c ns ds cls dx → W cls dx σ H'
  | .stk => False
end
section
variable {K : PySem.W.Frag} {CA : Ly} {W : WX} {F F' F1 : Addr → Prop} {μ μ' : List Addr} {H H' H1 : Hp} {bx : List D} {ρ : Sl} {σ : L2.St} {α β γ δ : Type}
theorem OkG.shift {rel rel1 : (Addr → Prop) → Hp → α → β → Prop} {o : Out α} {Q : β → Hp → Prop} (e : Ext F μ H F1 H1) (hr : ∀ F' H' r v, rel1 F' H' r v → rel F' H' r v) (h : OkG K CA W F μ σ H rel o Q) : OkG K CA W F1 μ σ H1 rel1 o Q := by
  cases o with
  | ok r bx' => exact fun v F' H' e' s rr => h v F' H' (e.trans e') s (hr _ _ _ _ rr)
  | exn c ns ds bx' => exact fun cls dx F' H' e' s x => h cls dx F' H' (e.trans e') s x
  | stk => exact h
theorem OkG.seq {rel1 : (Addr → Prop) → Hp → α → β → Prop} {rel2 : (Addr → Prop) → Hp → γ → δ → Prop} {o : Out α} {f : α → List D → Out γ} {Q : δ → Hp → Prop} {Q1 : β → Hp → Prop} (h : OkG K CA W F μ σ H rel2 (o.bind f) Q)
    (k : ∀ r bx1 v F1 H1, Ext F μ H F1 H1 → Sx K CA F1 μ H1 bx1 → rel1 F1 H1 r v → OkG K CA W F μ σ H rel2 (f r bx1) Q → Q1 v H1) : OkG K CA W F μ σ H rel1 o Q1 := by
  cases o with
  | ok r bx' => exact fun v F' H' e' s rr => k r bx' v F' H' e' s rr h
  | exn c ns ds bx' => exact h
  | stk => exact h
theorem RRv.of {H1 : Hp} (e : Ext F μ H F1 H1) {F' : Addr → Prop} {H' : Hp} {r : R} {v : V} (h : RRv K CA F' μ H1 H' r v) : RRv K CA F' μ H H' r v := by
  cases r with
  | val d => exact h
  | new d => obtain ⟨a, e1, e2, e3, e4, e5⟩ := h; exact ⟨a, e1, e.back e2 e3, e3, e4, e5⟩
theorem OkG.shiftR {o : Out R} {Q : VK} (e : Ext F μ H F1 H1) (h : OkG K CA W F μ σ H (fun F' H' => RRv K CA F' μ H H') o Q) : OkG K CA W F1 μ σ H1 (fun F' H' => RRv K CA F' μ H1 H') o Q :=
  h.shift e fun _ _ _ _ r => r.of e
end

section
variable (X : Cx) (CA : Ly) (W : WX)
/-- the expression does m -/
structure SE (e : Expr) (m : ME) : Prop where
  ex : ∃ te, PE X e te ∧ ∀ ρ bx F μ σ H Q, Sx X.K CA F μ H bx → En X.K CA F μ H ρ σ → OkG X.K CA W F μ σ H (fun F' H' => RRv X.K CA F' μ H H') (m ρ bx) Q → te σ H Q
structure ST (e : Expr) (m : MB) : Prop where
  ex : ∃ te, PT X e te ∧ ∀ ρ bx F μ σ H Q, Sx X.K CA F μ H bx → En X.K CA F μ H ρ σ → OkG X.K CA W F μ σ H (fun _ _ (b c : Bool) => c = b) (m ρ bx) Q → te σ H Q
structure SW (e : Expr) (m : MB) : Prop where
  ex : ∃ te, PW X e te ∧ ∀ ρ bx F μ σ H Q, Sx X.K CA F μ H bx → En X.K CA F μ H ρ σ → OkG X.K CA W F μ σ H (fun _ _ (b c : Bool) => c = b) (m ρ bx) Q → te σ H Q
structure SA (es : List Expr) (m : MA) : Prop where
  ex : ∃ ta, PA X es ta ∧ ∀ ρ bx F μ σ H Q, Sx X.K CA F μ H bx → En X.K CA F μ H ρ σ → OkG X.K CA W F μ σ H (fun F' H' => Rps X.K CA F' μ H') (m ρ bx) Q → ta σ H Q
end
theorem OkG.unfrz {K : PySem.W.Frag} {CA : Ly} {W : WX} {F : Addr → Prop} {μ : List Addr} {σ : L2.St} {H : Hp} {bx : List D} {o0 : Out R} {Q : VK} (s : Sx K CA F μ H bx) (o : OkG K CA W F μ σ H (fun F' H' => Rp K CA F' μ H') (o0.map R.d) Q) :
    OkG K CA W F μ σ H (fun F' H' => RRv K CA F' μ H H') o0 Q := by
  cases o0 with
  | ok r bx' =>
    intro v F' H' e' s' rr
    cases r with
    | val d => exact o v F' H' e' s' rr
    | new d =>
      obtain ⟨c, e1, e2, e3, e4, e5⟩ := rr
      subst e1
      have up : ∀ x, F' x → (F' x ∨ x = c) := fun _ z => .inl z
      have s2 : Sx K CA (fun x => F' x ∨ x = c) μ H' bx' := s'.same up (fun x hx z => z.elim (s'.dj x hx) fun z => e3 (z ▸ hx)) (fun x hx => hx.elim (fun z => let ⟨o, q⟩ := s'.tr x z; ⟨o, q, s'.ft x o z q⟩) fun z => let ⟨o, q⟩ := e5.there; ⟨o, z ▸ q, e5.nt o q⟩) fun _ _ z => z
      refine o (.ref c) _ H' ⟨fun x hx => .inl (e'.up x hx), fun x hx => ?_, e'.keep⟩ s2 ?_
      · rcases hx with hx | hx
        · exact e'.fr x hx
        · exact .inr (hx ▸ ⟨e2, e3⟩)
      · have mo : ∀ {ds vs}, Rps K CA F' μ H' ds vs → Rps K CA (fun x => F' x ∨ x = c) μ H' ds vs := fun r => r.mono up (fun _ _ q => q) fun _ _ _ z => z
        cases d with
        | lst ds => obtain ⟨vs, q1, q2⟩ := e5; exact ⟨c, vs, rfl, ⟨.inr rfl, q1⟩, mo q2⟩
        | ins k ns ds => obtain ⟨dx, vs, q1, q3, q2⟩ := e5; exact ⟨c, dx, vs, rfl, .inr rfl, q1, q3, mo q2⟩
        | dk ks ds => obtain ⟨vs, q1, q3, q2⟩ := e5; exact ⟨c, vs, rfl, .inr rfl, q1, q3, mo q2⟩
        | dt ks ds => obtain ⟨vs, q1, q3, q2⟩ := e5; exact ⟨c, vs, rfl, .inr rfl, q1, q3, mo q2⟩
        | _ => exact e5.elim
  | exn c ns ds bx' => exact o
  | stk => exact o


section
variable {X : Cx} {CA : Ly} {W : WX} {e a b : Expr} {es : List Expr} {pos : Pos}
/-- with what is new frozen -/
theorem SE.dat {m : ME} (h : SE X CA W e m) : ∃ te, PE X e te ∧ ∀ ρ bx F μ σ H Q, Sx X.K CA F μ H bx → En X.K CA F μ H ρ σ → OkG X.K CA W F μ σ H (fun F' H' => Rp X.K CA F' μ H') ((m ρ bx).map R.d) Q → te σ H Q := by
  obtain ⟨te, h1, h2⟩ := h.ex
  exact ⟨te, h1, fun ρ bx F μ σ H Q s n o => h2 ρ bx F μ σ H Q s n (OkG.unfrz s o)⟩
/-! ### names, constants -/
def mVar (i : Nat) : ME := fun ρ bx => match ρ[i]? with
  | some (some d) => .ok (.val d) bx
  | _ => .stk
def mC (d : D) : ME := fun _ bx => .ok (.val d) bx
theorem se_var {i : Nat} {x : Str} (hN : X.N[i]? = some x := by rfl) (hv : Vis X.env.scope x := by first | exact Or.inl rfl | exact Or.inr (Or.inl rfl) | exact Or.inr (Or.inr rfl)) (hd : (x == ("__debug__" : Str)) = false := by decide)
    (hcd : (x == ("__classdict__" : Str)) = false := by decide) : SE X CA W (.Name x pos) (mVar i) := by
  refine ⟨tVar i, pe_var hN hv hd hcd, fun ρ bx F μ σ H Q s n o => ?_⟩
  unfold mVar at o
  split at o
  · rename_i d hd
    obtain ⟨v, h1, h2⟩ := n.at_ i d hd
    exact ⟨v, h1, o v F H Ext.refl s h2⟩
  · exact o.elim
theorem se_c {d : D} {v : V} (h : PE X e (tC v)) (r : ∀ F μ H, Rp X.K CA F μ H d v) : SE X CA W e (mC d) :=
  ⟨tC v, h, fun _ _ F _ _ H _ s _ o => o v F H Ext.refl s (r _ _ _)⟩
theorem se_int {i j} : SE X CA W (.Constant (.int i) j pos) (mC (.int i)) := se_c pe_int fun _ _ _ => rfl
theorem se_bl {i j} : SE X CA W (.Constant (.bool i) j pos) (mC (.bl i)) := se_c pe_bl fun _ _ _ => rfl
theorem se_non {j} : SE X CA W (.Constant .none j pos) (mC .non) := se_c pe_non fun _ _ _ => rfl
theorem se_str {i j} : SE X CA W (.Constant (.str i) j pos) (mC (.str i)) := se_c pe_str fun _ _ _ => rfl
theorem se_glob {x : Str} {f : Addr} (hg : Gl X x) (hm : X.mg x = some (.ref f)) (hd : (x == ("__debug__" : Str)) = false := by decide) : SE X CA W (.Name x pos) (mC (.adr f)) := se_c (v := .ref f) (pe_glob hg hm rfl hd) fun _ _ _ => rfl

/-! ### operators -/
/-- an operation on values does g -/
def DOp (X : Cx) (CA : Ly) (W : WX) (f : Value → Value → Sem Value) (g : D → D → List D → Out R) : Prop :=
  ∃ r : R2, OpR X f r ∧ ∀ x y vx vy bx F μ σ H Q, Sx X.K CA F μ H bx → Rp X.K CA F μ H x vx → Rp X.K CA F μ H y vy → OkG X.K CA W F μ σ H (fun F' H' => RRv X.K CA F' μ H H') (g x y bx) Q → r vx vy H Q
theorem DOp.or {f : Value → Value → Sem Value} {g g' : D → D → List D → Out R} (h : DOp X CA W f g) (h' : DOp X CA W f g') : DOp X CA W f (fun x y bx => match g x y bx with | .stk => g' x y bx | o => o) := by
  obtain ⟨r, h1, h2⟩ := h
  obtain ⟨r', h1', h2'⟩ := h'
  refine ⟨_, h1.or h1', fun x y vx vy bx F μ σ H Q s rx ry o => ?_⟩
  cases q : g x y bx with
  | ok a b => simp only [q] at o; exact .inl (h2 x y vx vy bx F μ σ H Q s rx ry (by rw [q]; exact o))
  | exn c ns ds b => simp only [q] at o; exact .inl (h2 x y vx vy bx F μ σ H Q s rx ry (by rw [q]; exact o))
  | stk => simp only [q] at o; exact .inr (h2' x y vx vy bx F μ σ H Q s rx ry o)
def mBin (g : D → D → List D → Out R) (a b : ME) : ME := fun ρ bx => (a ρ bx).bind fun x b1 => (b ρ b1).bind fun y b2 => g x.d y.d b2
theorem map_bind {α β γ : Type} {o : Out α} {f : α → β} {g : β → List D → Out γ} : (o.map f).bind g = o.bind fun x b => g (f x) b := by cases o <;> rfl
theorem bin_ok {ta tb : TE} {ma mb : ME} {g : D → D → List D → Out R} {r : R2}
    (ha : ∀ ρ bx F μ σ H Q, Sx X.K CA F μ H bx → En X.K CA F μ H ρ σ → OkG X.K CA W F μ σ H (fun F' H' => Rp X.K CA F' μ H') ((ma ρ bx).map R.d) Q → ta σ H Q)
    (hb : ∀ ρ bx F μ σ H Q, Sx X.K CA F μ H bx → En X.K CA F μ H ρ σ → OkG X.K CA W F μ σ H (fun F' H' => Rp X.K CA F' μ H') ((mb ρ bx).map R.d) Q → tb σ H Q)
    (hr : ∀ x y vx vy bx F μ σ H Q, Sx X.K CA F μ H bx → Rp X.K CA F μ H x vx → Rp X.K CA F μ H y vy → OkG X.K CA W F μ σ H (fun F' H' => RRv X.K CA F' μ H H') (g x y bx) Q → r vx vy H Q) :
    ∀ ρ bx F μ σ H Q, Sx X.K CA F μ H bx → En X.K CA F μ H ρ σ → OkG X.K CA W F μ σ H (fun F' H' => RRv X.K CA F' μ H H') (mBin g ma mb ρ bx) Q → tOp r ta tb σ H Q := by
  intro ρ bx F μ σ H Q s n o
  refine ha ρ bx F μ σ H _ s n ?_
  have o' : OkG X.K CA W F μ σ H (fun F' H' => RRv X.K CA F' μ H H') (((ma ρ bx).map R.d).bind fun x b1 => (mb ρ b1).bind fun y b2 => g x y.d b2) Q := by rw [map_bind]; exact o
  refine o'.seq fun x b1 vx F1 H1 e1 s1 rx o1 => ?_
  refine hb ρ b1 F1 μ σ H1 _ s1 (n.ext s e1) ?_
  have o2 : OkG X.K CA W F1 μ σ H1 (fun F' H' => RRv X.K CA F' μ H1 H') (((mb ρ b1).map R.d).bind fun y b2 => g x y b2) Q := by rw [map_bind]; exact o1.shiftR e1
  refine o2.seq fun y b2 vy F2 H2 e2 s2 ry o3 => ?_
  exact hr x y vx vy b2 F2 μ σ H2 Q s2 (rx.ext s1 e2) ry (o3.shiftR e2)
theorem se_bin {op : Operator} {g : D → D → List D → Out R} {ma mb : ME} (ho : DOp X CA W (binaryOp op) g) (ha : SE X CA W a ma) (hb : SE X CA W b mb) : SE X CA W (.BinOp a op b pos) (mBin g ma mb) := by
  obtain ⟨r, h1, h2⟩ := ho
  obtain ⟨ta, a1, a2⟩ := ha.dat
  obtain ⟨tb, b1, b2⟩ := hb.dat
  exact ⟨_, pe_op h1 a1 b1, bin_ok a2 b2 h2⟩
theorem se_cmp {op : CmpOp} {g : D → D → List D → Out R} {ma mb : ME} (ho : DOp X CA W (compareOp op) g) (ha : SE X CA W a ma) (hb : SE X CA W b mb) (hm : behindInMarks op b = false) : SE X CA W (.Compare a [op] [b] pos) (mBin g ma mb) := by
  obtain ⟨r, h1, h2⟩ := ho
  obtain ⟨ta, a1, a2⟩ := ha.dat
  obtain ⟨tb, b1, b2⟩ := hb.dat
  exact ⟨_, pe_cmpR h1 a1 b1 hm, bin_ok a2 b2 h2⟩
/-- a result as a truth -/
def R.tr : R → List D → Out Bool
  | .val (.bl b), bx => .ok b bx
  | _, _ => .stk
def mTest (m : ME) : MB := fun ρ bx => (m ρ bx).bind fun r b1 => r.tr b1
theorem test_ok {te : TE} {m : ME} (h : ∀ ρ bx F μ σ H Q, Sx X.K CA F μ H bx → En X.K CA F μ H ρ σ → OkG X.K CA W F μ σ H (fun F' H' => RRv X.K CA F' μ H H') (m ρ bx) Q → te σ H Q) :
    ∀ ρ bx F μ σ H Q, Sx X.K CA F μ H bx → En X.K CA F μ H ρ σ → OkG X.K CA W F μ σ H (fun _ _ (b c : Bool) => c = b) (mTest m ρ bx) Q → te σ H (fun x H' => ∃ k, x = .bl k ∧ Q k H') := by
  intro ρ bx F μ σ H Q s n o
  refine h ρ bx F μ σ H _ s n ?_
  refine OkG.seq (rel2 := fun _ _ (b c : Bool) => c = b) (Q := Q) o fun r b1 v F1 H1 e1 s1 rv o1 => ?_
  cases r with
  | new d => exact o1.elim
  | val d => cases d with
    | bl k => exact ⟨k, rv, o1 k F1 H1 e1 s1 rfl⟩
    | _ => exact o1.elim
theorem st_cmp {op : CmpOp} {g : D → D → List D → Out R} {ma mb : ME} (ho : DOp X CA W (compareOp op) g) (ha : SE X CA W a ma) (hb : SE X CA W b mb) (hm : behindInMarks op b = false) : ST X CA W (.Compare a [op] [b] pos) (mTest (mBin g ma mb)) := by
  obtain ⟨r, h1, h2⟩ := ho
  obtain ⟨ta, a1, a2⟩ := ha.dat
  obtain ⟨tb, b1, b2⟩ := hb.dat
  exact ⟨_, pt_cmpR h1 a1 b1 hm, test_ok (bin_ok a2 b2 h2)⟩
theorem st_val {m : ME} (h : SE X CA W e m) (he : ∀ whole, isTrue e X.env whole = (do let v ← whole; standAt e.pos; holding [v] (truthy v)) := by intro _; rfl) : ST X CA W e (mTest m) := by
  obtain ⟨te, h1, h2⟩ := h.ex
  exact ⟨_, pt_val h1 he, test_ok h2⟩
/-- one-place -/
def DUn (X : Cx) (CA : Ly) (W : WX) (f : Value → Sem Value) (g : D → List D → Out R) : Prop :=
  ∃ r : V → Hp → VK → Prop, UnR X f r ∧ ∀ x vx bx F μ σ H Q, Sx X.K CA F μ H bx → Rp X.K CA F μ H x vx → OkG X.K CA W F μ σ H (fun F' H' => RRv X.K CA F' μ H H') (g x bx) Q → r vx H Q
def mUn (g : D → List D → Out R) (a : ME) : ME := fun ρ bx => (a ρ bx).bind fun x b1 => g x.d b1
theorem un_ok {ta : TE} {ma : ME} {g : D → List D → Out R} {r : V → Hp → VK → Prop}
    (ha : ∀ ρ bx F μ σ H Q, Sx X.K CA F μ H bx → En X.K CA F μ H ρ σ → OkG X.K CA W F μ σ H (fun F' H' => Rp X.K CA F' μ H') ((ma ρ bx).map R.d) Q → ta σ H Q)
    (hr : ∀ x vx bx F μ σ H Q, Sx X.K CA F μ H bx → Rp X.K CA F μ H x vx → OkG X.K CA W F μ σ H (fun F' H' => RRv X.K CA F' μ H H') (g x bx) Q → r vx H Q) :
    ∀ ρ bx F μ σ H Q, Sx X.K CA F μ H bx → En X.K CA F μ H ρ σ → OkG X.K CA W F μ σ H (fun F' H' => RRv X.K CA F' μ H H') (mUn g ma ρ bx) Q → tUn r ta σ H Q := by
  intro ρ bx F μ σ H Q s n o
  refine ha ρ bx F μ σ H _ s n ?_
  have o' : OkG X.K CA W F μ σ H (fun F' H' => RRv X.K CA F' μ H H') (((ma ρ bx).map R.d).bind fun x b1 => g x b1) Q := by rw [map_bind]; exact o
  refine o'.seq fun x b1 vx F1 H1 e1 s1 rx o1 => ?_
  exact hr x vx b1 F1 μ σ H1 Q s1 rx (o1.shiftR e1)
theorem se_un {op : UnaryOp} {g : D → List D → Out R} {ma : ME} (ho : DUn X CA W (unaryOp op) g) (ha : SE X CA W a ma) : SE X CA W (.UnaryOp op a pos) (mUn g ma) := by
  obtain ⟨r, h1, h2⟩ := ho
  obtain ⟨ta, a1, a2⟩ := ha.dat
  exact ⟨_, pe_un h1 a1, un_ok a2 h2⟩

/-! ### and, or, not, if -/
def mAnd (a b : MB) : MB := fun ρ bx => (a ρ bx).bind fun x b1 => if x then b ρ b1 else .ok false b1
def mOr (a b : MB) : MB := fun ρ bx => (a ρ bx).bind fun x b1 => if x then .ok true b1 else b ρ b1
def mNot (a : MB) : MB := fun ρ bx => (a ρ bx).bind fun x b1 => .ok (!x) b1
theorem OkG.bsh {K : PySem.W.Frag} {F F1 : Addr → Prop} {μ : List Addr} {σ : L2.St} {H H1 : Hp} {o : Out Bool} {Q : Bool → Hp → Prop} (e : Ext F μ H F1 H1) (h : OkG K CA W F μ σ H (fun _ _ (b c : Bool) => c = b) o Q) :
    OkG K CA W F1 μ σ H1 (fun _ _ (b c : Bool) => c = b) o Q := h.shift e fun _ _ _ _ z => z
theorem sw_and {ma mb : MB} {rest : List Expr} (ha : ST X CA W a ma) (hb : SW X CA W (.BoolOp .And (b :: rest) pos) mb) : SW X CA W (.BoolOp .And (a :: b :: rest) pos) (mAnd ma mb) := by
  obtain ⟨ta, a1, a2⟩ := ha.ex
  obtain ⟨tb, b1, b2⟩ := hb.ex
  refine ⟨_, pw_and a1 b1, fun ρ bx F μ σ H Q s n o => a2 ρ bx F μ σ H _ s n ?_⟩
  refine OkG.seq (rel2 := fun _ _ (b c : Bool) => c = b) (Q := Q) o fun x b1 c F1 H1 e1 s1 ec o1 => ?_
  subst ec
  cases c with
  | true => exact iteT (b2 ρ b1 F1 μ σ H1 Q s1 (n.ext s e1) (OkG.bsh e1 o1))
  | false => exact iteF (o1 false F1 H1 e1 s1 rfl)
theorem sw_or {ma mb : MB} {rest : List Expr} (ha : ST X CA W a ma) (hb : SW X CA W (.BoolOp .Or (b :: rest) pos) mb) : SW X CA W (.BoolOp .Or (a :: b :: rest) pos) (mOr ma mb) := by
  obtain ⟨ta, a1, a2⟩ := ha.ex
  obtain ⟨tb, b1, b2⟩ := hb.ex
  refine ⟨_, pw_or a1 b1, fun ρ bx F μ σ H Q s n o => a2 ρ bx F μ σ H _ s n ?_⟩
  refine OkG.seq (rel2 := fun _ _ (b c : Bool) => c = b) (Q := Q) o fun x b1 c F1 H1 e1 s1 ec o1 => ?_
  subst ec
  cases c with
  | true => exact iteT (o1 true F1 H1 e1 s1 rfl)
  | false => exact iteF (b2 ρ b1 F1 μ σ H1 Q s1 (n.ext s e1) (OkG.bsh e1 o1))
theorem sw_and1 {ma : MB} (ha : ST X CA W a ma) : SW X CA W (.BoolOp .And [a] pos) ma := let ⟨ta, a1, a2⟩ := ha.ex; ⟨ta, pw_and1 a1, a2⟩
theorem sw_or1 {ma : MB} (ha : ST X CA W a ma) : SW X CA W (.BoolOp .Or [a] pos) ma := let ⟨ta, a1, a2⟩ := ha.ex; ⟨ta, pw_or1 a1, a2⟩
theorem SW.t {m : MB} (h : SW X CA W e m) : ST X CA W e m := let ⟨ta, a1, a2⟩ := h.ex; ⟨ta, a1.pt, a2⟩
theorem st_not {ma : MB} (ha : ST X CA W a ma) : ST X CA W (.UnaryOp .Not a pos) (mNot ma) := by
  obtain ⟨ta, a1, a2⟩ := ha.ex
  refine ⟨_, pt_not a1, fun ρ bx F μ σ H Q s n o => a2 ρ bx F μ σ H _ s n ?_⟩
  refine OkG.seq (rel2 := fun _ _ (b c : Bool) => c = b) (Q := Q) o fun x b1 c F1 H1 e1 s1 ec o1 => ?_
  subst ec
  exact o1 (!c) F1 H1 e1 s1 rfl
/-- the same as values that are truths -/
def mAndV (a b : ME) : ME := fun ρ bx => (mTest a ρ bx).bind fun x b1 => if x then b ρ b1 else .ok (.val (.bl false)) b1
def mOrV (a b : ME) : ME := fun ρ bx => (mTest a ρ bx).bind fun x b1 => if x then .ok (.val (.bl true)) b1 else b ρ b1
def mNotV (a : ME) : ME := fun ρ bx => (mTest a ρ bx).bind fun x b1 => .ok (.val (.bl (!x))) b1
theorem se_one {op} {ma : ME} (ha : SE X CA W a ma) : SE X CA W (.BoolOp op [a] pos) ma := let ⟨ta, a1, a2⟩ := ha.ex; ⟨ta, pe_one a1, a2⟩
theorem se_and {ma mb : ME} {rest : List Expr} (ha : SE X CA W a ma) (hb : SE X CA W (.BoolOp .And (b :: rest) pos) mb) : SE X CA W (.BoolOp .And (a :: b :: rest) pos) (mAndV ma mb) := by
  obtain ⟨ta, a1, a2⟩ := ha.ex
  obtain ⟨tb, b1, b2⟩ := hb.ex
  refine ⟨_, pe_and a1 b1, fun ρ bx F μ σ H Q s n o => ?_⟩
  refine test_ok a2 ρ bx F μ σ H (fun c H1 => if c = true then tb σ H1 Q else Q (.bl false) H1) s n ?_
  refine OkG.seq (rel2 := fun F' H' => RRv X.K CA F' μ H H') (Q := Q) o fun x b1 c F1 H1 e1 s1 ec o1 => ?_
  subst ec
  cases c with
  | true => exact iteT (b2 ρ b1 F1 μ σ H1 Q s1 (n.ext s e1) (OkG.shiftR e1 o1))
  | false => exact iteF (o1 (.bl false) F1 H1 e1 s1 rfl)
theorem se_or {ma mb : ME} {rest : List Expr} (ha : SE X CA W a ma) (hb : SE X CA W (.BoolOp .Or (b :: rest) pos) mb) : SE X CA W (.BoolOp .Or (a :: b :: rest) pos) (mOrV ma mb) := by
  obtain ⟨ta, a1, a2⟩ := ha.ex
  obtain ⟨tb, b1, b2⟩ := hb.ex
  refine ⟨_, pe_or a1 b1, fun ρ bx F μ σ H Q s n o => ?_⟩
  refine test_ok a2 ρ bx F μ σ H (fun c H1 => if c = true then Q (.bl true) H1 else tb σ H1 Q) s n ?_
  refine OkG.seq (rel2 := fun F' H' => RRv X.K CA F' μ H H') (Q := Q) o fun x b1 c F1 H1 e1 s1 ec o1 => ?_
  subst ec
  cases c with
  | true => exact iteT (o1 (.bl true) F1 H1 e1 s1 rfl)
  | false => exact iteF (b2 ρ b1 F1 μ σ H1 Q s1 (n.ext s e1) (OkG.shiftR e1 o1))
theorem se_not {ma : ME} (ha : SE X CA W a ma) : SE X CA W (.UnaryOp .Not a pos) (mNotV ma) := by
  obtain ⟨ta, a1, a2⟩ := ha.ex
  refine ⟨_, pe_not a1, fun ρ bx F μ σ H Q s n o => ?_⟩
  refine test_ok a2 ρ bx F μ σ H (fun c H1 => Q (.bl (!c)) H1) s n ?_
  refine OkG.seq (rel2 := fun F' H' => RRv X.K CA F' μ H H') (Q := Q) o fun x b1 c F1 H1 e1 s1 ec o1 => ?_
  subst ec
  exact o1 (.bl (!c)) F1 H1 e1 s1 rfl
def mIf (t : MB) (a b : ME) : ME := fun ρ bx => (t ρ bx).bind fun x b1 => if x then a ρ b1 else b ρ b1

/-! ### argument lists -/
def aNil : MA := fun _ bx => .ok [] bx
def aCons (m : ME) (r : MA) : MA := fun ρ bx => (m ρ bx).bind fun x b1 => (r ρ b1).bind fun ds b2 => .ok (x.d :: ds) b2
theorem sa_nil : SA X CA W [] aNil := ⟨tNil, pa_nil, fun _ bx F _ _ H _ s _ o => o [] F H Ext.refl s trivial⟩
theorem cons_ok {ta : TE} {tr : TA} {m : ME} {r : MA} (a2 : ∀ ρ bx F μ σ H Q, Sx X.K CA F μ H bx → En X.K CA F μ H ρ σ → OkG X.K CA W F μ σ H (fun F' H' => Rp X.K CA F' μ H') ((m ρ bx).map R.d) Q → ta σ H Q)
    (b2 : ∀ ρ bx F μ σ H Q, Sx X.K CA F μ H bx → En X.K CA F μ H ρ σ → OkG X.K CA W F μ σ H (fun F' H' => Rps X.K CA F' μ H') (r ρ bx) Q → tr σ H Q) :
    ∀ ρ bx F μ σ H Q, Sx X.K CA F μ H bx → En X.K CA F μ H ρ σ → OkG X.K CA W F μ σ H (fun F' H' => Rps X.K CA F' μ H') (aCons m r ρ bx) Q → tCons ta tr σ H Q := by
  intro ρ bx F μ σ H Q s n o
  refine a2 ρ bx F μ σ H _ s n ?_
  have o' : OkG X.K CA W F μ σ H (fun F' H' => Rps X.K CA F' μ H') (((m ρ bx).map R.d).bind fun x b1 => (r ρ b1).bind fun ds b2 => .ok (x :: ds) b2) Q := by rw [map_bind]; exact o
  refine o'.seq fun x b1 vx F1 H1 e1 s1 rx o1 => ?_
  refine b2 ρ b1 F1 μ σ H1 _ s1 (n.ext s e1) ?_
  refine OkG.seq (rel2 := fun F' H' => Rps X.K CA F' μ H') (Q := Q) (OkG.shift e1 (fun _ _ _ _ z => z) o1) fun ds b2 vs F2 H2 e2 s2 rs o2 => ?_
  exact o2 (vx :: vs) F2 H2 e2 s2 ⟨rx.ext s1 e2, rs⟩
theorem sa_cons {m : ME} {r : MA} (ha : SE X CA W e m) (hr : SA X CA W es r) (hs : starEach (e :: es) X.env = (false, eval e X.env) :: starEach es X.env := by rfl) : SA X CA W (e :: es) (aCons m r) := by
  obtain ⟨ta, a1, a2⟩ := ha.dat
  obtain ⟨tb, b1, b2⟩ := hr.ex
  exact ⟨_, pa_cons a1 b1 hs, cons_ok a2 b2⟩
end
end DL

set_option Elab.async false
set_option linter.all false
set_option maxRecDepth 100000
set_option maxHeartbeats 4000000
/-! DL2: displays, statements, defs and their calls. -/
namespace DL
open PySem PySem.Spec L2
section
variable {X : Cx} {CA : Ly} {W : WX} {e a b c : Expr} {es : List Expr} {pos : Pos}
/-! ### displays, a if t else b -/
def mTup (m : MA) : ME := fun ρ bx => (m ρ bx).bind fun ds b1 => if ds.length ≤ sizeLine then .ok (.val (.tup ds)) b1 else .stk
def mLst (m : MA) : ME := fun ρ bx => (m ρ bx).bind fun ds b1 => if ds.length ≤ sizeLine then .ok (.new (.lst ds)) b1 else .stk
theorem se_tup {x1} {m : MA} (h : SA X CA W es m) : SE X CA W (.Tuple es x1 pos) (mTup m) := by
  obtain ⟨ta, a1, a2⟩ := h.ex
  refine ⟨_, pe_tup a1, fun ρ bx F μ σ H Q s n o => a2 ρ bx F μ σ H _ s n ?_⟩
  refine OkG.seq (rel2 := fun F' H' => RRv X.K CA F' μ H H') (Q := Q) o fun ds b1 vs F1 H1 e1 s1 rs o1 => ?_
  by_cases hl : ds.length ≤ sizeLine
  · rw [if_pos hl] at o1
    refine ⟨by rw [← rs.length]; exact hl, fun p hp => ?_⟩
    have e2 := Ext.new (o := .tup vs) s1 hp
    exact o1 (.ref p) _ _ (e1.trans e2) (s1.new hp) ⟨p, vs, rfl, .inl ⟨.inr rfl, upd_same⟩, rs.ext s1 e2⟩
  · rw [if_neg hl] at o1; exact o1.elim
theorem se_lst {m : MA} (h : SA X CA W es m) : SE X CA W (.List es pos) (mLst m) := by
  obtain ⟨ta, a1, a2⟩ := h.ex
  refine ⟨_, pe_lst a1, fun ρ bx F μ σ H Q s n o => a2 ρ bx F μ σ H _ s n ?_⟩
  refine OkG.seq (rel2 := fun F' H' => RRv X.K CA F' μ H H') (Q := Q) o fun ds b1 vs F1 H1 e1 s1 rs o1 => ?_
  by_cases hl : ds.length ≤ sizeLine
  · rw [if_pos hl] at o1
    refine ⟨by rw [← rs.length]; exact hl, fun p hp => ?_⟩
    have e2 := Ext.tmp (F := F1) (μ := μ) (o := .lst vs) hp
    have nm := s1.notIn hp
    refine o1 (.ref p) F1 _ (e1.trans e2) (s1.tmp hp) ⟨p, rfl, e1.back (.of hp) nm, nm, s1.notF hp, vs, upd_same, rs.ext s1 e2⟩
  · rw [if_neg hl] at o1; exact o1.elim

theorem se_if {mt : MB} {ma mb : ME} (ht : ST X CA W c mt) (ha : SE X CA W a ma) (hb : SE X CA W b mb) : SE X CA W (.IfExp c a b pos) (mIf mt ma mb) := by
  obtain ⟨tt, t1, t2⟩ := ht.ex
  obtain ⟨ta, a1, a2⟩ := ha.ex
  obtain ⟨tb, b1, b2⟩ := hb.ex
  refine ⟨_, pe_ifExp t1 a1 b1, fun ρ bx F μ σ H Q s n o => t2 ρ bx F μ σ H _ s n ?_⟩
  refine OkG.seq (rel2 := fun F' H' => RRv X.K CA F' μ H H') (Q := Q) o fun x c1 k F1 H1 e1 s1 ec o1 => ?_
  subst ec
  cases k with
  | true => exact iteT (a2 ρ c1 F1 μ σ H1 Q s1 (n.ext s e1) (OkG.shiftR e1 o1))
  | false => exact iteF (b2 ρ c1 F1 μ σ H1 Q s1 (n.ext s e1) (OkG.shiftR e1 o1))
end

/-! ### boxes that come -/
structure ExtM (F : Addr → Prop) (μ : List Addr) (H : Hp) (F' : Addr → Prop) (μ' : List Addr) (H' : Hp) : Prop where
  up : ∀ a, F a → F' a
  fr : ∀ a, F' a → F a ∨ (Vac H a ∧ a ∉ μ)
  keep : ∀ a o, H a = some o → a ∉ μ → NT o → H' a = some o
  mu : ∃ ν, μ' = μ ++ ν ∧ ∀ b ∈ ν, Vac H b
section
variable {K : PySem.W.Frag} {CA : Ly} {W : WX} {F F' F'' F1 : Addr → Prop} {μ μ' μ'' μ1 : List Addr} {H H' H'' H1 : Hp} {bx : List D} {ρ : Sl} {σ : L2.St}
theorem Ext.m (e : Ext F μ H F' H') : ExtM F μ H F' μ H' := ⟨e.up, e.fr, e.keep, [], by simp, fun _ h => by cases h⟩
theorem ExtM.refl : ExtM F μ H F μ H := Ext.refl.m
theorem ExtM.get (e : ExtM F μ H F' μ' H') : ∀ (n : Nat) (a : Addr), μ[n]? = some a → μ'[n]? = some a := fun n a h => by
  obtain ⟨ν, e1, _⟩ := e.mu
  rw [e1, List.getElem?_append_left (List.getElem?_eq_some_iff.mp h).1]
  exact h
theorem ExtM.notIn (e : ExtM F μ H F' μ' H') {a : Addr} {o : HO} (h : H a = some o) (ho : NT o) (hm : a ∉ μ) : a ∉ μ' := fun hm' => by
  obtain ⟨ν, e1, e2⟩ := e.mu
  rw [e1] at hm'
  rcases List.mem_append.mp hm' with z | z
  · exact hm z
  · exact e2 a z o h ho
theorem ExtM.sub (e : ExtM F μ H F' μ' H') {a : Addr} (h : a ∈ μ) : a ∈ μ' := by
  obtain ⟨ν, e1, _⟩ := e.mu
  rw [e1]; exact List.mem_append_left _ h
theorem ExtM.back (e : ExtM F μ H F' μ' H') {a : Addr} (h : Vac H' a) (hm : a ∉ μ) : Vac H a := fun o q z => h o (e.keep a o q hm z) z
theorem Sx.boxN (s : Sx K CA F μ H bx) {a : Addr} (hm : a ∈ μ) : ∃ o, H a = some o ∧ NT o := by
  obtain ⟨n, hn, e2⟩ := List.mem_iff_getElem.mp hm
  have h1 : n < bx.length := s.len ▸ hn
  have z := s.at_ n _ a (List.getElem?_eq_getElem h1) (by rw [List.getElem?_eq_getElem hn, e2])
  obtain ⟨o, q⟩ := z.there
  exact ⟨o, q, z.nt o q⟩
theorem Sx.box (s : Sx K CA F μ H bx) {a : Addr} (hm : a ∈ μ) : ∃ o, H a = some o := let ⟨o, q, _⟩ := s.boxN hm; ⟨o, q⟩
theorem ExtM.trans (e : ExtM F μ H F' μ' H') (s : Sx K CA F' μ' H' bx) (e' : ExtM F' μ' H' F'' μ'' H'') : ExtM F μ H F'' μ'' H'' := by
  refine ⟨fun a h => e'.up a (e.up a h), fun a h => (e'.fr a h).elim (fun z => e.fr a z) fun z => ?_, fun a o h hm z => e'.keep a o (e.keep a o h hm z) (e.notIn h z hm) z, ?_⟩
  · exact .inr ⟨e.back z.1 fun q => z.2 (e.sub q), fun q => z.2 (e.sub q)⟩
  · obtain ⟨ν, e1, e2⟩ := e.mu
    obtain ⟨ν', e1', e2'⟩ := e'.mu
    refine ⟨ν ++ ν', by rw [e1', e1, List.append_assoc], fun b hb => ?_⟩
    rcases List.mem_append.mp hb with z | z
    · exact e2 b z
    · by_cases q : b ∈ μ
      · obtain ⟨o, r, n⟩ := s.boxN (e.sub q)
        exact (e2' b z o r n).elim
      · exact e.back (e2' b z) q
theorem Sx.stayM (s : Sx K CA F μ H bx) (e : ExtM F μ H F' μ' H') : Stay F H H' := fun a o f h => e.keep a o h (fun z => s.dj a z f) (s.ft a o f h)
theorem Rp.extM {d : D} {v : V} (s : Sx K CA F μ H bx) (e : ExtM F μ H F' μ' H') (h : Rp K CA F μ H d v) : Rp K CA F' μ' H' d v := h.mono e.up e.get (s.stayM e)
theorem Rps.extM {ds : List D} {vs : List V} (s : Sx K CA F μ H bx) (e : ExtM F μ H F' μ' H') (h : Rps K CA F μ H ds vs) : Rps K CA F' μ' H' ds vs := h.mono e.up e.get (s.stayM e)
theorem En.extM (s : Sx K CA F μ H bx) (e : ExtM F μ H F' μ' H') (h : En K CA F μ H ρ σ) : En K CA F' μ' H' ρ σ :=
  ⟨h.len, fun i d q => let ⟨v, q1, q2⟩ := h.at_ i d q; ⟨v, q1, q2.extM s e⟩⟩
theorem En.set {i : Nat} {d : D} {v : V} (h : En K CA F μ H ρ σ) (r : Rp K CA F μ H d v) : En K CA F μ H (ρ.set i (some d)) (σ.set i (some v)) := by
  refine ⟨by rw [List.length_set, List.length_set]; exact h.len, fun j d' q => ?_⟩
  by_cases e : i = j
  · subst e
    have hi : i < ρ.length := by
      have := (List.getElem?_eq_some_iff.mp q).1
      rwa [List.length_set] at this
    rw [List.getElem?_set_self hi] at q
    cases q
    exact ⟨v, List.getElem?_set_self (h.len ▸ hi), r⟩
  · rw [List.getElem?_set_ne e] at q
    obtain ⟨w, q1, q2⟩ := h.at_ j d' q
    exact ⟨w, by rw [List.getElem?_set_ne e]; exact q1, q2⟩
end

/-! ### statements -/
section
variable (K : PySem.W.Frag) (CA : Ly) (W : WX)
def OkS (F : Addr → Prop) (μ : List Addr) (H : Hp) (D : Ends) : OutS → Prop
  | .nx ρ' bx' => ∀ σ' F' μ' H', ExtM F μ H F' μ' H' → Sx K CA F' μ' H' bx' → En K CA F' μ' H' ρ' σ' → D.nx σ' H'
  | .bk ρ' bx' => ∀ σ' F' μ' H', ExtM F μ H F' μ' H' → Sx K CA F' μ' H' bx' → En K CA F' μ' H' ρ' σ' → D.bk σ' H'
  | .ct ρ' bx' => ∀ σ' F' μ' H', ExtM F μ H F' μ' H' → Sx K CA F' μ' H' bx' → En K CA F' μ' H' ρ' σ' → D.ct σ' H'
  | .rt r bx' => ∀ v F' μ' H', ExtM F μ H F' μ' H' → Sx K CA F' μ' H' bx' → RRv K CA F' μ' H H' r v → D.rt v H'
  | .exn c ns ds ρ' bx' => ∀ cls dx σ' F' μ' H', ExtM F μ H F' μ' H' → Sx K CA F' μ' H' bx' → En K CA F' μ' H' ρ' σ' → ExAt K CA F' μ' H' c ns ds cls dx → W cls dx σ' H'
  | .stk => False
end
def liftE {α : Type} (o : Out α) (ρ : Sl) (f : α → List D → OutS) : OutS := match o with
  | .ok r b => f r b
  | .exn c ns ds b => .exn c ns ds ρ b
  | .stk => .stk
@[simp] theorem liftE_ok {α : Type} {r : α} {b : List D} {ρ : Sl} {f : α → List D → OutS} : liftE (.ok r b) ρ f = f r b := rfl
@[simp] theorem liftE_exn {α : Type} {c ns ds} {b : List D} {ρ : Sl} {f : α → List D → OutS} : liftE (.exn c ns ds b) ρ f = .exn c ns ds ρ b := rfl
@[simp] theorem liftE_stk {α : Type} {ρ : Sl} {f : α → List D → OutS} : liftE .stk ρ f = .stk := rfl
section
variable {K : PySem.W.Frag} {CA : Ly} {W : WX} {F F' F'' F1 : Addr → Prop} {μ μ' μ'' μ1 : List Addr} {H H' H'' H1 : Hp} {bx bx1 : List D} {ρ : Sl} {σ : L2.St} {D : Ends} {α β : Type}
theorem RRv.ofM (e : ExtM F μ H F1 μ1 H1) (hs : ∀ a ∈ μ1, a ∈ μ') {r : R} {v : V} (h : RRv K CA F' μ' H1 H' r v) : RRv K CA F' μ' H H' r v := by
  cases r with
  | val d => exact h
  | new d => obtain ⟨a, e1, e2, e3, e4, e5⟩ := h; exact ⟨a, e1, e.back e2 fun z => e3 (hs _ (e.sub z)), e3, e4, e5⟩
theorem OkS.shift {o : OutS} (e : ExtM F μ H F1 μ1 H1) (s : Sx K CA F1 μ1 H1 bx1) (h : OkS K CA W F μ H D o) : OkS K CA W F1 μ1 H1 D o := by
  cases o with
  | nx ρ' bx' => exact fun σ' F' μ' H' e' s' n' => h σ' F' μ' H' (e.trans s e') s' n'
  | bk ρ' bx' => exact fun σ' F' μ' H' e' s' n' => h σ' F' μ' H' (e.trans s e') s' n'
  | ct ρ' bx' => exact fun σ' F' μ' H' e' s' n' => h σ' F' μ' H' (e.trans s e') s' n'
  | rt r bx' => exact fun v F' μ' H' e' s' r' => h v F' μ' H' (e.trans s e') s' (r'.ofM e fun a z => e'.sub z)
  | exn c ns ds ρ' bx' => exact fun cls dx σ' F' μ' H' e' s' n' x => h cls dx σ' F' μ' H' (e.trans s e') s' n' x
  | stk => exact h
/-- an expression's result goes on into a statement -/
theorem OkS.seqE {rel : (Addr → Prop) → Hp → α → β → Prop} {o : Out α} {f : α → List DL.D → OutS} {Q : β → Hp → Prop} (s0 : Sx K CA F μ H bx) (n0 : En K CA F μ H ρ σ) (h : OkS K CA W F μ H D (liftE o ρ f))
    (k : ∀ r bx1 v F1 H1, Ext F μ H F1 H1 → Sx K CA F1 μ H1 bx1 → rel F1 H1 r v → OkS K CA W F μ H D (f r bx1) → Q v H1) : OkG K CA W F μ σ H rel o Q := by
  cases o with
  | ok r bx' => exact fun v F' H' e' s' rr => k r bx' v F' H' e' s' rr h
  | exn c ns ds bx' => exact fun cls dx F' H' e' s' x => h cls dx σ F' μ H' e'.m s' (n0.ext s0 e') x
  | stk => exact h
end
/-- the same slots but for some -/
def Agr (is : List Nat) (σ σ' : L2.St) : Prop := σ'.length = σ.length ∧ ∀ j, j ∉ is → σ'[j]? = σ[j]?
theorem Agr.refl {is : List Nat} {σ : L2.St} : Agr is σ σ := ⟨rfl, fun _ _ => rfl⟩
theorem Agr.trans {is js : List Nat} {σ σ' σ'' : L2.St} (h : Agr is σ σ') (h' : Agr js σ' σ'') : Agr (is ++ js) σ σ'' :=
  ⟨h'.1.trans h.1, fun j hj => (h'.2 j fun z => hj (List.mem_append_right _ z)).trans (h.2 j fun z => hj (List.mem_append_left _ z))⟩
theorem Agr.set {σ : L2.St} {i : Nat} {v : Option V} : Agr [i] σ (σ.set i v) := ⟨List.length_set, fun j hj => List.getElem?_set_ne fun e => hj (by simp [e])⟩
section
variable (X : Cx) (CA : Ly) (W : WX)
structure SS (st : Stmt) (m : MS) : Prop where
  ex : ∃ ts, PS X st ts ∧ ∀ ρ bx F μ σ H D, Sx X.K CA F μ H bx → En X.K CA F μ H ρ σ → OkS X.K CA W F μ H D (m ρ bx) → ts D σ H
structure SB (sts : List Stmt) (m : MS) : Prop where
  ex : ∃ ts, PSs X sts ts ∧ ∀ ρ bx F μ σ H D, Sx X.K CA F μ H bx → En X.K CA F μ H ρ σ → OkS X.K CA W F μ H D (m ρ bx) → ts D σ H
/-- a target -/
structure SG (tg : Expr) (is : List Nat) (g : D → Sl → Option Sl) : Prop where
  ex : ∃ t, PG X tg t ∧ ∀ d v ρ bx F μ σ H Q, Sx X.K CA F μ H bx → En X.K CA F μ H ρ σ → Rp X.K CA F μ H d v → (∃ ρ', g d ρ = some ρ' ∧ ∀ σ', En X.K CA F μ H ρ' σ' → Agr is σ σ' → Q σ' H) → t v σ H Q
structure SGs (tgs : List Expr) (is : List Nat) (g : List D → Sl → Option Sl) : Prop where
  ex : ∃ t, PGs X tgs t ∧ ∀ ds vs ρ bx F μ σ H Q, Sx X.K CA F μ H bx → En X.K CA F μ H ρ σ → Rps X.K CA F μ H ds vs → (∃ ρ', g ds ρ = some ρ' ∧ ∀ σ', En X.K CA F μ H ρ' σ' → Agr is σ σ' → Q σ' H) → t vs σ H Q
end
section
variable {X : Cx} {CA : Ly} {W : WX} {e a b c : Expr} {es : List Expr} {pos : Pos} {st : Stmt} {sts : List Stmt}
def mSkip : MS := fun ρ bx => .nx ρ bx
def mSeq (a b : MS) : MS := fun ρ bx => match a ρ bx with
  | .nx ρ' bx' => b ρ' bx'
  | o => o
theorem sb_nil : SB X CA W [] mSkip := ⟨tNext, pss_nil, fun ρ bx F μ σ H D s n o => o σ F μ H ExtM.refl s n⟩
theorem sb_one {m : MS} (h : SS X CA W st m) : SB X CA W [st] m := let ⟨t, h1, h2⟩ := h.ex; ⟨t, pss_one h1, h2⟩
theorem sb_cons {m r : MS} (h : SS X CA W st m) (hr : SB X CA W sts r) : SB X CA W (st :: sts) (mSeq m r) := by
  obtain ⟨t, h1, h2⟩ := h.ex
  obtain ⟨u, r1, r2⟩ := hr.ex
  refine ⟨_, pss_cons h1 r1, fun ρ bx F μ σ H D s n o => h2 ρ bx F μ σ H _ s n ?_⟩
  unfold mSeq at o
  cases q : m ρ bx with
  | nx ρ' bx' =>
    rw [q] at o
    exact fun σ' F' μ' H' e' s' n' => r2 ρ' bx' F' μ' σ' H' D s' n' (OkS.shift e' s' o)
  | bk ρ' bx' => rw [q] at o; exact o
  | ct ρ' bx' => rw [q] at o; exact o
  | rt r bx' => rw [q] at o; exact o
  | exn c ns ds ρ' bx' => rw [q] at o; exact o
  | stk => rw [q] at o; exact o
theorem ss_pass : SS X CA W (.Pass pos) mSkip := ⟨tNext, ps_pass, fun ρ bx F μ σ H D s n o => o σ F μ H ExtM.refl s n⟩
def mBreak : MS := fun ρ bx => .bk ρ bx
def mCont : MS := fun ρ bx => .ct ρ bx
theorem ss_break : SS X CA W (.Break pos) mBreak := ⟨tBreak, ps_break, fun ρ bx F μ σ H D s n o => o σ F μ H ExtM.refl s n⟩
theorem ss_cont : SS X CA W (.Continue pos) mCont := ⟨tCont, ps_continue, fun ρ bx F μ σ H D s n o => o σ F μ H ExtM.refl s n⟩
def mExpr (m : ME) : MS := fun ρ bx => liftE (m ρ bx) ρ fun _ b => .nx ρ b
theorem ss_expr {m : ME} (h : SE X CA W e m) (hs : swapsWith e none pos.line X.env = pure false := by rfl) : SS X CA W (.Expr e pos) (mExpr m) := by
  obtain ⟨t, h1, h2⟩ := h.ex
  exact ⟨_, ps_expr h1 hs, fun ρ bx F μ σ H D s n o => h2 ρ bx F μ σ H _ s n (OkS.seqE s n o fun r b v F1 H1 e1 s1 rr o1 => o1 σ F1 μ H1 e1.m s1 (n.ext s e1))⟩
def mRet (m : ME) : MS := fun ρ bx => liftE (m ρ bx) ρ fun r b => .rt r b
theorem ss_ret {m : ME} (h : SE X CA W e m) : SS X CA W (.Return (some e) pos) (mRet m) := by
  obtain ⟨t, h1, h2⟩ := h.ex
  exact ⟨_, ps_ret h1, fun ρ bx F μ σ H D s n o => h2 ρ bx F μ σ H _ s n (OkS.seqE s n o fun r b v F1 H1 e1 s1 rr o1 => o1 v F1 μ H1 e1.m s1 rr)⟩
def mRetN : MS := fun ρ bx => .rt (.val .non) bx
theorem ss_retN : SS X CA W (.Return none pos) mRetN := ⟨_, ps_retN, fun ρ bx F μ σ H D s n o => o .non F μ H ExtM.refl s rfl⟩
def mIfS (t : MB) (a b : MS) : MS := fun ρ bx => liftE (t ρ bx) ρ fun x b1 => if x then a ρ b1 else b ρ b1
theorem ss_if {mt : MB} {ma mb : MS} {sa sb : List Stmt} (ht : ST X CA W c mt) (ha : SB X CA W sa ma) (hb : SB X CA W sb mb) : SS X CA W (.If c sa sb pos) (mIfS mt ma mb) := by
  obtain ⟨tt, t1, t2⟩ := ht.ex
  obtain ⟨ta, a1, a2⟩ := ha.ex
  obtain ⟨tb, b1, b2⟩ := hb.ex
  refine ⟨_, ps_if t1 a1 b1, fun ρ bx F μ σ H D s n o => t2 ρ bx F μ σ H _ s n (OkS.seqE s n o fun x b1 k F1 H1 e1 s1 ec o1 => ?_)⟩
  subst ec
  cases k with
  | true => exact iteT (a2 ρ b1 F1 μ σ H1 D s1 (n.ext s e1) (OkS.shift e1.m s1 o1))
  | false => exact iteF (b2 ρ b1 F1 μ σ H1 D s1 (n.ext s e1) (OkS.shift e1.m s1 o1))
/-! ### targets -/
def gN (i : Nat) : D → Sl → Option Sl := fun d ρ => some (ρ.set i (some d))
theorem sg_name {i : Nat} {x : Str} (hN : X.N.Nodup) (hi : X.N[i]? = some x := by rfl) (hx : Loc X.env.scope x := by first | exact Or.inl rfl | exact Or.inr rfl) (hf : X.fn x = true ∨ X.env.scope.names.lookup x = some .local := by first | exact .inl rfl | exact .inr rfl) : SG X CA (.Name x pos) [i] (gN i) := by
  refine ⟨_, pg_name hN hi hx hf, fun d v ρ bx F μ σ H Q s n r ⟨ρ', e, k⟩ => ?_⟩
  cases e
  exact k _ (n.set r) Agr.set
def gTs : List (D → Sl → Option Sl) → List D → Sl → Option Sl
  | [], [], ρ => some ρ
  | g :: gs, d :: ds, ρ => (g d ρ).bind fun ρ' => gTs gs ds ρ'
  | _, _, _ => none
def gTup (gs : List (D → Sl → Option Sl)) : D → Sl → Option Sl := fun d ρ => match d with
  | .tup ds => gTs gs ds ρ
  | _ => none
theorem sgs_nil : SGs X CA [] [] (gTs []) := ⟨_, pgs_nil, fun ds vs ρ bx F μ σ H Q s n r ⟨ρ', e, k⟩ => by
  cases ds with
  | nil => cases vs with
    | nil => cases e; exact ⟨rfl, k σ n Agr.refl⟩
    | cons _ _ => exact r.elim
  | cons _ _ => cases e⟩
theorem sgs_cons {is js : List Nat} {g : D → Sl → Option Sl} {gs : List (D → Sl → Option Sl)} (h : SG X CA e is g) (hr : SGs X CA es js (gTs gs)) (hs : (assignEach (e :: es) X.env).map (·.2) = assign e X.env :: (assignEach es X.env).map (·.2) := by rfl) : SGs X CA (e :: es) (is ++ js) (gTs (g :: gs)) := by
  obtain ⟨t, h1, h2⟩ := h.ex
  obtain ⟨u, r1, r2⟩ := hr.ex
  refine ⟨_, pgs_cons h1 r1 hs, fun ds vs ρ bx F μ σ H Q s n r ⟨ρ', e, k⟩ => ?_⟩
  cases ds with
  | nil => cases e
  | cons d ds => cases vs with
    | nil => exact r.elim
    | cons v vs =>
      have e' : ((g d ρ).bind fun ρ' => gTs gs ds ρ') = some ρ' := e
      cases q : g d ρ with
      | none => rw [q] at e'; cases e'
      | some ρ1 =>
        rw [q] at e'
        exact ⟨v, vs, rfl, h2 d v ρ bx F μ σ H _ s n r.1 ⟨ρ1, q, fun σ1 n1 a1 => r2 ds vs ρ1 bx F μ σ1 H Q s n1 r.2 ⟨ρ', e', fun σ2 n2 a2 => k σ2 n2 (a1.trans a2)⟩⟩⟩
theorem gTs_len : ∀ {gs : List (D → Sl → Option Sl)} {ds : List D} {ρ ρ' : Sl}, gTs gs ds ρ = some ρ' → ds.length = gs.length
  | [], [], _, _, _ => rfl
  | [], _ :: _, _, _, h => by cases h
  | _ :: _, [], _, _, h => by cases h
  | g :: gs, d :: ds, ρ, ρ', h => by
    have e' : ((g d ρ).bind fun ρ' => gTs gs ds ρ') = some ρ' := h
    cases q : g d ρ with
    | none => rw [q] at e'; cases e'
    | some ρ1 => rw [q] at e'; exact congrArg Nat.succ (gTs_len e')
theorem sg_tup {is : List Nat} {k : Nat} {gs : List (D → Sl → Option Sl)} (hc : X.calm = true) (h : SGs X CA es is (gTs gs)) (hn : (assignEach es X.env).length = gs.length := by rfl) (hst : (assignEach es X.env).findIdx? (·.1) = none := by rfl) : SG X CA (.Tuple es k pos) is (gTup gs) := by
  obtain ⟨t, h1, h2⟩ := h.ex
  refine ⟨_, pg_tup hc h1 hn hst, fun d v ρ bx F μ σ H Q s n r ⟨ρ', e, k⟩ => ?_⟩
  cases d with
  | tup ds =>
    obtain ⟨p, vs, q1, q2, q3⟩ := r
    subst q1
    exact ⟨p, vs, rfl, q2.sq, by rw [← q3.length]; exact gTs_len e, h2 ds vs ρ bx F μ σ H Q s n q3 ⟨ρ', e, k⟩⟩
  | _ => cases e
def mAsg (m : ME) (g : D → Sl → Option Sl) : MS := fun ρ bx => liftE (m ρ bx) ρ fun r b => match g r.d ρ with
  | some ρ' => .nx ρ' b
  | none => .stk
theorem liftE_map {α β : Type} {o : Out α} {f : α → β} {ρ : Sl} {g : β → List D → OutS} : liftE (o.map f) ρ g = liftE o ρ fun r b => g (f r) b := by cases o <;> rfl
theorem ss_asg {is : List Nat} {m : ME} {g : D → Sl → Option Sl} (h : SE X CA W e m) (hg : SG X CA a is g) (hs : swapsWithSole [a] e pos.line X.env = pure false := by rfl) (hw : swappedStores [a] e X.env = pure none := by rfl)
    (h1 : (assignEach [a] X.env).map (·.2) = [assign a X.env] := by rfl) : SS X CA W (.Assign [a] e pos) (mAsg m g) := by
  obtain ⟨t, t1, t2⟩ := h.dat
  obtain ⟨u, u1, u2⟩ := hg.ex
  refine ⟨_, ps_asg t1 u1 hs hw h1, fun ρ bx F μ σ H D s n o => t2 ρ bx F μ σ H _ s n ?_⟩
  have o' : OkS X.K CA W F μ H D (liftE ((m ρ bx).map R.d) ρ fun d b => match g d ρ with | some ρ' => .nx ρ' b | none => .stk) := by rw [liftE_map]; exact o
  refine OkS.seqE s n o' fun d b v F1 H1 e1 s1 rr o1 => ?_
  cases q : g d ρ with
  | none => rw [q] at o1; exact o1.elim
  | some ρ' =>
    rw [q] at o1
    exact u2 d v ρ b F1 μ σ H1 D.nx s1 (n.ext s e1) rr ⟨ρ', q, fun σ' n' _ => o1 σ' F1 μ H1 e1.m s1 n'⟩
theorem ss_set {m : ME} {i : Nat} {x : Str} {pos' : Pos} (h : SE X CA W e m) (hN : X.N.Nodup) (hi : X.N[i]? = some x := by rfl) (hx : Loc X.env.scope x := by first | exact Or.inl rfl | exact Or.inr rfl) (hs : swapsWith e (some (.Name x pos')) pos.line X.env = pure false := by rfl)
    (hf : X.fn x = true ∨ X.env.scope.names.lookup x = some .local := by first | exact .inl rfl | exact .inr rfl) : SS X CA W (.Assign [.Name x pos'] e pos) (mAsg m (gN i)) := by
  obtain ⟨t, t1, t2⟩ := h.dat
  refine ⟨_, ps_set hN hi hx t1 hs hf, fun ρ bx F μ σ H D s n o => t2 ρ bx F μ σ H _ s n ?_⟩
  have o' : OkS X.K CA W F μ H D (liftE ((m ρ bx).map R.d) ρ fun d b => .nx (ρ.set i (some d)) b) := by rw [liftE_map]; exact o
  exact OkS.seqE s n o' fun d b v F1 H1 e1 s1 rr o1 => o1 _ F1 μ H1 e1.m s1 ((n.ext s e1).set rr)
/-- what is made goes into a box of its own -/
def mBox (m : ME) (i : Nat) : MS := fun ρ bx => liftE (m ρ bx) ρ fun r b => match r with
  | .new d => .nx (ρ.set i (some (.box b.length))) (b ++ [d])
  | .val _ => .stk
theorem Sx.push {K : PySem.W.Frag} {F : Addr → Prop} {μ : List Addr} {H : Hp} {bx : List D} {d : D} {p : Addr} (s : Sx K CA F μ H bx) (hp : p ∉ μ) (hF : ¬ F p) (h : At K CA F μ H d p) : Sx K CA F (μ ++ [p]) H (bx ++ [d]) := by
  have up : ∀ (n : Nat) (a : Addr), μ[n]? = some a → (μ ++ [p])[n]? = some a := fun n a q => by rw [List.getElem?_append_left (List.getElem?_eq_some_iff.mp q).1]; exact q
  refine ⟨by simp [s.len], fun n d' a h1 h2 => ?_, ?_, fun a hm => ?_, s.tr, s.ft, s.tb⟩
  · by_cases hn : n < bx.length
    · rw [List.getElem?_append_left hn] at h1
      rw [List.getElem?_append_left (s.len ▸ hn)] at h2
      exact At.mono (h := s.at_ n d' a h1 h2) (hF := fun _ z => z) (hm := up) (hs := fun _ _ _ z => z) (ha := fun _ z => z)
    · rw [List.getElem?_append_right (Nat.le_of_not_lt hn)] at h1
      rw [List.getElem?_append_right (s.len ▸ Nat.le_of_not_lt hn)] at h2
      have z : n - bx.length = 0 := by
        have := (List.getElem?_eq_some_iff.mp h1).1
        simpa using this
      rw [z] at h1
      rw [← s.len, z] at h2
      cases h1; cases h2
      exact At.mono (h := h) (hF := fun _ z => z) (hm := up) (hs := fun _ _ _ z => z) (ha := fun _ z => z)
  · rw [List.nodup_append]
    refine ⟨s.nd, by simp, fun a h1 b h2 => ?_⟩
    have : b = p := by simpa using h2
    rintro rfl
    exact hp (this ▸ h1)
  · rcases List.mem_append.mp hm with z | z
    · exact s.dj a z
    · have : a = p := by simpa using z
      exact this ▸ hF
theorem ss_box {m : ME} {i : Nat} {x : Str} {pos' : Pos} (h : SE X CA W e m) (hN : X.N.Nodup) (hi : X.N[i]? = some x := by rfl) (hx : Loc X.env.scope x := by first | exact Or.inl rfl | exact Or.inr rfl) (hs : swapsWith e (some (.Name x pos')) pos.line X.env = pure false := by rfl)
    (hf : X.fn x = true ∨ X.env.scope.names.lookup x = some .local := by first | exact .inl rfl | exact .inr rfl) : SS X CA W (.Assign [.Name x pos'] e pos) (mBox m i) := by
  obtain ⟨t, t1, t2⟩ := h.ex
  refine ⟨_, ps_set hN hi hx t1 hs hf, fun ρ bx F μ σ H D s n o => t2 ρ bx F μ σ H _ s n ?_⟩
  refine OkS.seqE s n o fun r b v F1 H1 e1 s1 rr o1 => ?_
  cases r with
  | val d => exact o1.elim
  | new d =>
    obtain ⟨p, q1, q2, q3, q4, q5⟩ := rr
    subst q1
    have s2 := s1.push q3 q4 q5
    have e2 : ExtM F μ H F1 (μ ++ [p]) H1 := ⟨e1.up, e1.fr, e1.keep, [p], rfl, fun b hb => by
      have : b = p := by simpa using hb
      exact this ▸ q2⟩
    have n2 : En X.K CA F1 (μ ++ [p]) H1 ρ σ := n.extM s e2
    refine o1 _ F1 (μ ++ [p]) H1 e2 s2 (n2.set ⟨p, rfl, ?_⟩)
    rw [s1.len]
    simp
end
end DL

set_option Elab.async false
set_option linter.all false
set_option maxRecDepth 100000
set_option maxHeartbeats 4000000
/-! DL3: defs and their calls, loops. -/
namespace DL
open PySem PySem.Spec L2
/-! ### what leaves a def -/
mutual
def D.cl (b : Nat) : D → Bool
  | .tup ds => D.cls b ds
  | .lst ds => D.cls b ds
  | .rol ds => D.cls b ds
  | .ins _ _ ds => D.cls b ds
  | .dk _ ds => D.cls b ds
  | .dt _ ds => D.cls b ds
  | .box n => decide (n < b)
  | .non => true
  | .bl _ => true
  | .int _ => true
  | .str _ => true
  | .adr _ => true
  | .ty _ => true
def D.cls (b : Nat) : List D → Bool
  | [] => true
  | d :: ds => d.cl b && D.cls b ds
end
/-- b: how many boxes stood at the entry -/
def leave (b : Nat) (r : R) (bx : List D) : Out R :=
  if bx.length = b then .ok r bx
  else if (bx.take b).all (D.cl b) then match r with
    | .val (.box n) => if n < b then .ok (.val (.box n)) (bx.take b) else match bx[n]? with
      | some d => if d.cl b then .ok (.new d) (bx.take b) else .stk
      | none => .stk
    | .val d => if d.cl b then .ok (.val d) (bx.take b) else .stk
    | .new d => if d.cl b then .ok (.new d) (bx.take b) else .stk
  else .stk
def leaveX (b : Nat) (c : Nat) (ns : List Str) (ds : List D) (bx : List D) : Out R :=
  if bx.length = b then .exn c ns ds bx
  else if (bx.take b).all (D.cl b) && D.cls b ds then .exn c ns ds (bx.take b) else .stk
/-- a def of n slots by its body -/
def body (n : Nat) (m : MS) : MF := fun ds bx => match m (ds.map some ++ List.replicate (n - ds.length) none) bx with
  | .nx _ b => leave bx.length (.val .non) b
  | .rt r b => leave bx.length r b
  | .exn c ns es _ b => leaveX bx.length c ns es b
  | _ => .stk
section
variable {K : PySem.W.Frag} {CA : Ly} {F F' : Addr → Prop} {μ μ' : List Addr} {H H' : Hp} {bx : List D} {b : Nat}
mutual
theorem Rp.cut : ∀ {d : D} {v : V}, d.cl b = true → Rp K CA F μ H d v → Rp K CA F (μ.take b) H d v
  | .non, _, _, h => h
  | .bl _, _, _, h => h
  | .int _, _, _, h => h
  | .str _, _, _, h => h
  | .adr _, _, _, h => h
  | .ty _, _, _, h => h
  | .box n, _, c, h => let ⟨a, e, q⟩ := h; ⟨a, e, by
      have : n < b := of_decide_eq_true c
      rw [List.getElem?_take_of_lt this]; exact q⟩
  | .tup _, _, c, h => let ⟨a, vs, e, t, r⟩ := h; ⟨a, vs, e, t, Rps.cut c r⟩
  | .lst _, _, c, h => let ⟨a, vs, e, t, r⟩ := h; ⟨a, vs, e, t, Rps.cut c r⟩
  | .rol _, _, c, h => let ⟨a, vs, e, t, r⟩ := h; ⟨a, vs, e, t, Rps.cut c r⟩
  | .ins _ _ _, _, c, h => let ⟨a, dx, vs, e, f, t, l, r⟩ := h; ⟨a, dx, vs, e, f, t, l, Rps.cut c r⟩
  | .dk _ _, _, c, h => let ⟨a, vs, e, f, t, l, r⟩ := h; ⟨a, vs, e, f, t, l, Rps.cut c r⟩
  | .dt _ _, _, c, h => let ⟨a, vs, e, f, t, l, r⟩ := h; ⟨a, vs, e, f, t, l, Rps.cut c r⟩
theorem Rps.cut : ∀ {ds : List D} {vs : List V}, D.cls b ds = true → Rps K CA F μ H ds vs → Rps K CA F (μ.take b) H ds vs
  | [], [], _, _ => trivial
  | d :: ds, v :: vs, c, h => by
    have c' : (d.cl b && D.cls b ds) = true := c
    exact ⟨Rp.cut (Bool.and_eq_true_iff.mp c').1 h.1, Rps.cut (Bool.and_eq_true_iff.mp c').2 h.2⟩
  | [], _ :: _, _, h => h.elim
  | _ :: _, [], _, h => h.elim
end
theorem At.cut {d : D} {a : Addr} (c : d.cl b = true) (h : At K CA F μ H d a) : At K CA F (μ.take b) H d a := by
  cases d with
  | lst ds => obtain ⟨vs, e, r⟩ := h; exact ⟨vs, e, r.cut c⟩
  | ins k ns ds => obtain ⟨dx, vs, e, l, r⟩ := h; exact ⟨dx, vs, e, l, r.cut c⟩
  | dk ks ds => obtain ⟨vs, e, l, r⟩ := h; exact ⟨vs, e, l, r.cut c⟩
  | dt ks ds => obtain ⟨vs, e, l, r⟩ := h; exact ⟨vs, e, l, r.cut c⟩
  | _ => exact h.elim
theorem Sx.cut (s : Sx K CA F μ H bx) (c : (bx.take b).all (D.cl b) = true) : Sx K CA F (μ.take b) H (bx.take b) := by
  refine ⟨by simp [s.len], fun n d a h1 h2 => ?_, s.nd.sublist (List.take_sublist _ _), fun a hm => s.dj a (List.mem_of_mem_take hm), s.tr, s.ft, s.tb⟩
  have hn : n < b := by
    have := (List.getElem?_eq_some_iff.mp h1).1
    rw [List.length_take] at this; omega
  have cd : d.cl b = true := List.all_eq_true.mp c d (List.mem_of_getElem? h1)
  rw [List.getElem?_take_of_lt hn] at h1 h2
  exact (s.at_ n d a h1 h2).cut cd
end

/-! ### a def's promise -/
/-- of n arguments -/
def ar (n : Nat) (mf : MF) : MF := fun ds bx => if ds.length = n then mf ds bx else .stk
def spM (K : PySem.W.Frag) (CA : Ly) (n : Nat) (mf : MF) : Sp := fun vs H Q E => ∃ ds bx F μ, Rps K CA F μ H ds vs ∧ Sx K CA F μ H bx ∧ OkG K CA (fun cls d _ H => E cls d H) F μ [] H (fun F' H' => RRv K CA F' μ H H') (ar n mf ds bx) Q
theorem spM.len {K : PySem.W.Frag} {CA : Ly} {n : Nat} {mf : MF} {vs : List V} {H : Hp} {Q : VK} {E : XK} (h : spM K CA n mf vs H Q E) : vs.length = n := by
  obtain ⟨ds, bx, F, μ, r, _, o⟩ := h
  rw [← r.length]
  unfold ar at o
  by_cases l : ds.length = n
  · exact l
  · rw [if_neg l] at o; exact o.elim
/-- what a body may lean on -/
structure Frm (X : Cx) (W : WX) : Prop where
  tk : Takes X W
  po : PassesOwn (model X.prog X.w) X.A X.env X.xe
  calm : X.calm = true
theorem start_len {N : List Str} {vs : List V} (h : vs.length ≤ N.length) : (L2.start N vs).length = N.length := by
  unfold L2.start
  rw [List.length_append, List.length_map, List.length_replicate]; omega
section
variable {P : Program} {w : World} {K : PySem.W.Frag} {mg : Str → Option Value} {base : Heap} {CA : Ly}
theorem body_ok {N : List Str} {qual : Str} {scope : Scope} {f : Addr} {cdv : Value} {A : Around} {outer : List Env} {s : Shared} {H : Hp} {vs : List V} {Q : VK} {E : XK} {n : Nat} {st : List Stmt} {ms : MS} (hn : n ≤ N.length)
    (hb : SB (cxOf (L2.CX P w) P w K mg base N qual scope f cdv A outer s H E) CA (fun cls d _ H => E cls d H) st ms) (h : spM K CA n (body N.length ms) vs H Q E) :
    ∃ t, PSs (cxOf (L2.CX P w) P w K mg base N qual scope f cdv A outer s H E) st t ∧ t { nx := fun _ H' => Q .non H', rt := Q } (L2.start N vs) H := by
  have hl := h.len
  obtain ⟨ds, bx, F, μ, r, sx, o⟩ := h
  have l : ds.length = n := r.length.trans hl
  unfold ar at o
  rw [if_pos l] at o
  obtain ⟨t, h1, h2⟩ := hb.ex
  refine ⟨t, h1, h2 (ds.map some ++ List.replicate (N.length - ds.length) none) bx F μ _ H _ sx ?_ ?_⟩
  · refine ⟨?_, fun i d q => ?_⟩
    · rw [start_len (by rw [hl]; exact hn)]
      simp only [List.length_append, List.length_map, List.length_replicate]; omega
    · have hi : i < ds.length := by
        by_cases hi : i < ds.length
        · exact hi
        · rw [List.getElem?_append_right (by simpa using hi), List.getElem?_replicate] at q
          split at q <;> cases q
      rw [List.getElem?_append_left (by simpa using hi), List.getElem?_map] at q
      cases q2 : ds[i]? with
      | none => rw [q2] at q; cases q
      | some d' =>
        rw [q2] at q
        obtain ⟨v, v1, v2⟩ := r.get q2
        have : d' = d := by simpa using q
        subst this
        refine ⟨v, ?_, v2⟩
        unfold L2.start
        rw [List.getElem?_append_left (by simpa using (List.getElem?_eq_some_iff.mp v1).1), List.getElem?_map, v1]
        rfl
  · have bl : bx.length = μ.length := sx.len
    have cutM : ∀ {μ' F' H'}, ExtM F μ H F' μ' H' → μ'.take bx.length = μ := fun {μ' F' H'} e => by
      obtain ⟨ν, e1, _⟩ := e.mu
      rw [e1, bl, List.take_left']; rfl
    have toE : ∀ {μ' F' H'}, ExtM F μ H F' μ' H' → Ext F μ H F' H' := fun e => ⟨e.up, e.fr, e.keep⟩
    have same : ∀ {μ' F' H' b'}, ExtM F μ H F' μ' H' → Sx K CA F' μ' H' b' → b'.length = bx.length → μ' = μ := fun {μ' F' H' b'} e s e2 => by
      obtain ⟨ν, e1, _⟩ := e.mu
      have := s.len
      rw [e1, List.length_append, e2, bl] at this
      have : ν = [] := List.length_eq_zero_iff.mp (by omega)
      rw [e1, this, List.append_nil]
    -- what is returned
    have ret : ∀ (q : R) (b' : List D) (v : V) (F' : Addr → Prop) (μ' : List Addr) (H' : Hp), OkG K CA (fun cls d _ H => E cls d H) F μ [] H (fun F' H' => RRv K CA F' μ H H') (leave bx.length q b') Q →
        ExtM F μ H F' μ' H' → Sx K CA F' μ' H' b' → RRv K CA F' μ' H H' q v → Q v H' := by
      intro q b' v F' μ' H' o' e' s' r'
      unfold leave at o'
      by_cases e0 : b'.length = bx.length
      · rw [if_pos e0] at o'
        have := same e' s' e0
        subst this
        exact o' v F' H' (toE e') s' r'
      · rw [if_neg e0] at o'
        by_cases e1 : ((b'.take bx.length).all (D.cl bx.length)) = true
        · rw [if_pos e1] at o'
          have s2 := s'.cut e1
          rw [cutM e'] at s2
          cases q with
          | new d =>
            by_cases c : d.cl bx.length = true
            · simp only [c, if_true] at o'
              obtain ⟨a, a1, a2, a3, a4, a5⟩ := r'
              have a5' := a5.cut c
              rw [cutM e'] at a5'
              exact o' v F' H' (toE e') s2 ⟨a, a1, a2, fun z => a3 (e'.sub z), a4, a5'⟩
            · simp only [c, Bool.false_eq_true, if_false] at o'; exact o'.elim
          | val d =>
            have gen : (d.cl bx.length = true → Q v H') := fun c => by
              have r2 := Rp.cut c r'
              rw [cutM e'] at r2
              cases d with
              | box n =>
                have hn : n < bx.length := of_decide_eq_true c
                simp only [if_pos hn] at o'
                exact o' v F' H' (toE e') s2 r2
              | _ => simp only [c, if_true] at o'; exact o' v F' H' (toE e') s2 r2
            by_cases c : d.cl bx.length = true
            · exact gen c
            · cases d with
              | box n =>
                have hn : ¬ n < bx.length := fun z => c (decide_eq_true z)
                simp only [if_neg hn] at o'
                obtain ⟨a, a1, a2⟩ := r'
                cases q : b'[n]? with
                | none => rw [q] at o'; exact o'.elim
                | some d =>
                  rw [q] at o'
                  by_cases c2 : d.cl bx.length = true
                  · simp only [c2, if_true] at o'
                    have am : a ∈ μ' := List.mem_of_getElem? a2
                    have fresh : Vac H a ∧ a ∉ μ := by
                      obtain ⟨ν, e1, e2⟩ := e'.mu
                      rw [e1, List.getElem?_append_right (bl ▸ Nat.le_of_not_lt hn)] at a2
                      have hν := List.mem_of_getElem? a2
                      refine ⟨e2 a hν, fun z => ?_⟩
                      obtain ⟨u, hu, nu⟩ := sx.boxN z
                      exact e2 a hν u hu nu
                    have a5' := (s'.at_ n d a q a2).cut c2
                    rw [cutM e'] at a5'
                    exact o' v F' H' (toE e') s2 ⟨a, a1, fresh.1, fresh.2, s'.dj a am, a5'⟩
                  · simp only [c2, Bool.false_eq_true, if_false] at o'; exact o'.elim
              | _ => simp only [c, Bool.false_eq_true, if_false] at o'; exact o'.elim
        · rw [if_neg e1] at o'; exact o'.elim
    unfold body at o
    cases q : ms (ds.map some ++ List.replicate (N.length - ds.length) none) bx with
    | nx ρ' b' =>
      rw [q] at o
      exact fun σ' F' μ' H' e' s' n' => ret (.val .non) b' .non F' μ' H' o e' s' rfl
    | rt r b' =>
      rw [q] at o
      exact fun v F' μ' H' e' s' r' => ret r b' v F' μ' H' o e' s' r'
    | bk ρ' b' => rw [q] at o; exact o.elim
    | ct ρ' b' => rw [q] at o; exact o.elim
    | stk => rw [q] at o; exact o.elim
    | exn c ns es ρ' b' =>
      rw [q] at o
      intro cls dx σ' F' μ' H' e' s' n' x'
      have o' : OkG K CA (fun cls d _ H => E cls d H) F μ [] H (fun F' H' => RRv K CA F' μ H H') (leaveX bx.length c ns es b') Q := o
      unfold leaveX at o'
      by_cases e0 : b'.length = bx.length
      · rw [if_pos e0] at o'
        have := same e' s' e0
        subst this
        exact o' cls dx F' H' (toE e') s' x'
      · rw [if_neg e0] at o'
        by_cases e1 : ((b'.take bx.length).all (D.cl bx.length) && D.cls bx.length es) = true
        · rw [if_pos e1] at o'
          obtain ⟨c1, c2⟩ := Bool.and_eq_true_iff.mp e1
          have s2 := s'.cut c1
          rw [cutM e'] at s2
          obtain ⟨x1, a, vs', x2, x3, x4, x5⟩ := x'
          have x6 := x5.cut c2
          rw [cutM e'] at x6
          exact o' cls dx F' H' (toE e') s2 ⟨x1, a, vs', x2, x3, x4, x6⟩
        · rw [if_neg e1] at o'; exact o'.elim
/-- THE RULE for a def -/
theorem sf_of {x qual : Str} {params : Arguments} {st : List Stmt} {scope : Scope} {dvs : List V} {kws : List (Str × V)} {f : Addr} {fd : FuncData} {N ps : List Str} {k : Nat} {ms : MS} (F : FunD K x qual params st scope dvs kws f fd) (S : FnScope N ps scope)
    (hb : ∀ (cdv : Value) (A : Around) (outer : List Env) (s : Shared) (H : Hp) (E : XK), Room k (A.deeper (PyProof.Rows.envOfC qual scope s.heap.objs.size f cdv)) → Frm (cxOf (L2.CX P w) P w K mg base N qual scope f cdv A outer s H E) (fun cls d _ H => E cls d H) →
      SB (cxOf (L2.CX P w) P w K mg base N qual scope f cdv A outer s H E) CA (fun cls d _ H => E cls d H) st ms) :
    FnOk P w K mg base (L2.CX P w) (k + 1) f fd ps (spM K CA ps.length (body N.length ms)) := by
  have hpl : ps.length ≤ N.length := by have := congrArg List.length S.pre; rw [List.length_take] at this; omega
  refine F.ok S (fun vs H Q E h => h.len) fun cdv A outer s H vs Q E hr h => ?_
  exact body_ok hpl (hb cdv A outer s H E hr ⟨takes_of rfl rfl rfl rfl, passes_of rfl, rfl⟩) h
end

/-! ### calls -/
theorem OkG.wish {K : PySem.W.Frag} {CA : Ly} {W : WX} {F : Addr → Prop} {μ : List Addr} {σ : L2.St} {H : Hp} {α β : Type} {rel : (Addr → Prop) → Hp → α → β → Prop} {o : Out α} {Q : β → Hp → Prop} (h : OkG K CA W F μ σ H rel o Q) :
    OkG K CA (fun cls d _ H => W cls d σ H) F μ [] H rel o Q := by
  cases o with
  | ok r bx => exact h
  | exn c ns ds bx => exact h
  | stk => exact h
section
variable {X : Cx} {CA : Ly} {W : WX} {e a b c : Expr} {es : List Expr} {pos p : Pos} {k n : Nat} {f : Addr} {fd : FuncData} {ps : List Str} {x : Str}
def mCall (n : Nat) (mf : MF) (a : MA) : ME := fun ρ bx => (a ρ bx).bind fun ds b => ar n mf ds b
theorem se_call {mf : MF} {m : MA} (tk : Takes X W) (F : FnOk X.prog X.w X.K X.mg X.base (L2.CX X.prog X.w) k f fd ps (spM X.K CA n mf)) (hr : Room k X.A) (hg : Gl X x) (hm : X.mg x = some (.ref f)) (hk : PySem.W.keepIn X.K (.ref f) = true) (hb : Binds X.K fd ps [])
    (ha : SA X CA W (e :: es) m) (hdb : (x == ("__debug__" : Str)) = false := by decide) (he : starEach (e :: es) X.env = (false, eval e X.env) :: starEach es X.env := by rfl) (hpl : (backTo pos (starEach es X.env)).any (·.1) = false := by rfl) :
    SE X CA W (.Call (.Name x p) (e :: es) [] pos) (mCall n mf m) := by
  obtain ⟨ta, a1, a2⟩ := ha.ex
  refine ⟨_, pe_callS F hr hg hm hk hb (fun σ => passAt tk σ) a1 hdb he hpl, fun ρ bx F μ σ H Q s n o => a2 ρ bx F μ σ H _ s n ?_⟩
  refine OkG.seq (rel2 := fun F' H' => RRv X.K CA F' μ H H') (Q := Q) o fun ds b1 vs F1 H1 e1 s1 rs o1 => ?_
  exact ⟨ds, b1, F1, μ, rs, s1, (OkG.shiftR e1 o1).wish⟩
end
end DL

set_option Elab.async false
set_option linter.all false
set_option maxRecDepth 100000
set_option maxHeartbeats 4000000
/-! DL4: loops. -/
namespace DL
open PySem PySem.Spec L2
/-! ### while -/
def mWhile (t : MB) (m : MS) : Nat → MS
  | 0 => fun _ _ => .stk
  | k + 1 => fun ρ bx => liftE (t ρ bx) ρ fun x b => if x then (match m ρ b with
    | .nx ρ' b' => mWhile t m k ρ' b'
    | .ct ρ' b' => mWhile t m k ρ' b'
    | .bk ρ' b' => .nx ρ' b'
    | o => o) else .nx ρ b
section
variable {X : Cx} {CA : Ly} {W : WX} {e c tg iter : Expr} {es : List Expr} {pos : Pos} {sts : List Stmt}
theorem ss_while (k : Nat) {mt : MB} {m : MS} (hF : Frm X W) (ht : ST X CA W c mt) (hb : SB X CA W sts m) : SS X CA W (.While c sts [] pos) (mWhile mt m k) := by
  obtain ⟨tt, t1, t2⟩ := ht.ex
  obtain ⟨tb, b1, b2⟩ := hb.ex
  refine ⟨_, ps_while hF.po t1 b1, fun ρ bx F μ σ H D s n o => ?_⟩
  refine ⟨fun j σ' H' => ∃ ρ' bx' F' μ', Sx X.K CA F' μ' H' bx' ∧ En X.K CA F' μ' H' ρ' σ' ∧ OkS X.K CA W F' μ' H' D (mWhile mt m j ρ' bx'), ⟨k, ρ, bx, F, μ, s, n, o⟩, ?_⟩
  rintro j σ1 H1 ⟨ρ1, bx1, F1, μ1, s1, n1, o1⟩
  cases j with
  | zero => exact o1.elim
  | succ j =>
    refine t2 ρ1 bx1 F1 μ1 σ1 H1 _ s1 n1 (OkS.seqE s1 n1 o1 fun x b2' v F2 H2 e2 s2 ev o2 => ?_)
    subst ev
    cases v with
    | false => exact iteF (o2 σ1 F2 μ1 H2 e2.m s2 (n1.ext s1 e2))
    | true =>
      have n2 := n1.ext s1 e2
      refine iteT ⟨fun σ' H' => ∃ ρ' bx' F' μ', Sx X.K CA F' μ' H' bx' ∧ En X.K CA F' μ' H' ρ' σ' ∧ OkS X.K CA W F' μ' H' D (mWhile mt m j ρ' bx'), fun σ' H' h => ⟨j, Nat.lt_succ_self j, h⟩, ?_⟩
      refine b2 ρ1 b2' F2 μ1 σ1 H2 _ s2 n2 ?_
      have o3 : OkS X.K CA W F2 μ1 H2 D (match m ρ1 b2' with
        | .nx ρ' b' => mWhile mt m j ρ' b'
        | .ct ρ' b' => mWhile mt m j ρ' b'
        | .bk ρ' b' => .nx ρ' b'
        | o => o) := OkS.shift e2.m s2 o2
      cases q : m ρ1 b2' with
      | nx ρ' b' => rw [q] at o3; exact fun σ' F' μ' H' e' s' n' => ⟨ρ', b', F', μ', s', n', OkS.shift e' s' o3⟩
      | ct ρ' b' => rw [q] at o3; exact fun σ' F' μ' H' e' s' n' => ⟨ρ', b', F', μ', s', n', OkS.shift e' s' o3⟩
      | bk ρ' b' => rw [q] at o3; exact o3
      | rt r b' => rw [q] at o3; exact o3
      | exn c ns ds ρ' b' => rw [q] at o3; exact o3
      | stk => rw [q] at o3; exact o3

/-! ### for -/
abbrev MI := Sl → List D → Out (List D)
def loop (g : D → Sl → Option Sl) (m : MS) : List D → MS
  | [] => fun ρ bx => .nx ρ bx
  | d :: ds => fun ρ bx => match g d ρ with
    | none => .stk
    | some ρ1 => match m ρ1 bx with
      | .nx ρ' b' => loop g m ds ρ' b'
      | .ct ρ' b' => loop g m ds ρ' b'
      | .bk ρ' b' => .nx ρ' b'
      | o => o
def mFor (mi : MI) (g : D → Sl → Option Sl) (m : MS) : MS := fun ρ bx => liftE (mi ρ bx) ρ fun ds b => loop g m ds ρ b
/-- the iterator walks these, whatever else happens -/
def Wk (K : PySem.W.Frag) (CA : Ly) (J : It) (F : Addr → Prop) (μ : List Addr) (H : Hp) (ds : List D) : Prop :=
  ∀ i F2 μ2 H2 bx2, ExtM F μ H F2 μ2 H2 → Sx K CA F2 μ2 H2 bx2 →
    (∀ d, ds[i]? = some d → J.go i H2 ∧ ∀ x H', J.yld i H2 x H' → ∃ F3, Ext F2 μ2 H2 F3 H' ∧ Sx K CA F3 μ2 H' bx2 ∧ Rp K CA F3 μ2 H' d x) ∧ (i = ds.length → J.stop i H2)
variable (X CA W) in
structure SI (tg iter : Expr) (mi : MI) : Prop where
  ex : ∃ wi, PI X tg iter wi ∧ ∀ ρ bx F μ σ H R, Sx X.K CA F μ H bx → En X.K CA F μ H ρ σ → (match mi ρ bx with
    | .ok ds b => ∀ J F1 H1, Ext F μ H F1 H1 → Sx X.K CA F1 μ H1 b → Wk X.K CA J F1 μ H1 ds → R J H1
    | .exn c ns ds b => ∀ cls dx F' H', Ext F μ H F' H' → Sx X.K CA F' μ H' b → ExAt X.K CA F' μ H' c ns ds cls dx → W cls dx σ H'
    | .stk => False) → wi σ H R
theorem loop_ok {g : D → Sl → Option Sl} {m : MS} {tgr : TG} {tb : TS} {D : Ends} {J : It} {ds : List DL.D} {F1 : Addr → Prop} {μ1 : List Addr} {H1 : Hp} {b : List DL.D}
    {is : List Nat} (hg : ∀ d v ρ bx F μ σ H Q, Sx X.K CA F μ H bx → En X.K CA F μ H ρ σ → Rp X.K CA F μ H d v → (∃ ρ', g d ρ = some ρ' ∧ ∀ σ', En X.K CA F μ H ρ' σ' → Agr is σ σ' → Q σ' H) → tgr v σ H Q)
    (hb : ∀ ρ bx F μ σ H D, Sx X.K CA F μ H bx → En X.K CA F μ H ρ σ → OkS X.K CA W F μ H D (m ρ bx) → tb D σ H)
    (s1 : Sx X.K CA F1 μ1 H1 b) (wk : Wk X.K CA J F1 μ1 H1 ds) {ρ : Sl} {σ : L2.St} (n1 : En X.K CA F1 μ1 H1 ρ σ) (o : OkS X.K CA W F1 μ1 H1 D (loop g m ds ρ b)) :
    ∃ Wi : Nat → Nat → L2.St → Hp → Prop, (∃ m, Wi 0 m σ H1) ∧ ∀ i m σ H, Wi i m σ H →
      (J.stop i H ∧ D.nx σ H) ∨ (J.go i H ∧ ∃ N : L2.St → Hp → Prop, (∀ σ' H', N σ' H' → ∃ m', m' < m ∧ Wi (i + 1) m' σ' H') ∧ ∀ x H', J.yld i H x H' → tgr x σ H' fun σ2 H2 => tb { D with nx := N, ct := N, bk := D.nx } σ2 H2) := by
  let P : Nat → L2.St → Hp → Prop := fun i σ' H' => i ≤ ds.length ∧ ∃ ρ' bx' F' μ', ExtM F1 μ1 H1 F' μ' H' ∧ Sx X.K CA F' μ' H' bx' ∧ En X.K CA F' μ' H' ρ' σ' ∧ OkS X.K CA W F' μ' H' D (loop g m (ds.drop i) ρ' bx')
  refine ⟨fun i m σ' H' => m = ds.length - i ∧ P i σ' H', ⟨_, rfl, Nat.zero_le _, ρ, b, F1, μ1, ExtM.refl, s1, n1, o⟩, ?_⟩
  rintro i m' σ2 H2 ⟨rfl, hi, ρ2, bx2, F2, μ2, e2, s2, n2, o2⟩
  obtain ⟨w1, w2⟩ := wk i F2 μ2 H2 bx2 e2 s2
  by_cases hl : i = ds.length
  · refine .inl ⟨w2 hl, ?_⟩
    rw [hl, List.drop_length] at o2
    exact o2 σ2 F2 μ2 H2 ExtM.refl s2 n2
  · have hlt : i < ds.length := Nat.lt_of_le_of_ne hi hl
    obtain ⟨go, yl⟩ := w1 _ (List.getElem?_eq_getElem hlt)
    refine .inr ⟨go, P (i + 1), fun σ' H' p => ⟨ds.length - (i + 1), by omega, rfl, p⟩, fun x H3 y => ?_⟩
    obtain ⟨F3, e3, s3, r3⟩ := yl x H3 y
    rw [List.drop_eq_getElem_cons hlt] at o2
    have n3 := n2.ext s2 e3
    have o3 := OkS.shift e3.m s3 o2
    unfold loop at o3
    cases q : g ds[i] ρ2 with
    | none => rw [q] at o3; exact o3.elim
    | some ρ3 =>
      rw [q] at o3
      refine hg _ x ρ2 bx2 F3 μ2 σ2 H3 _ s3 n3 r3 ⟨ρ3, q, fun σ4 n4 _ => ?_⟩
      refine hb ρ3 bx2 F3 μ2 σ4 H3 _ s3 n4 ?_
      have fin : ∀ {ρ' : Sl} {b' : List DL.D}, OkS X.K CA W F3 μ2 H3 D (loop g m (ds.drop (i + 1)) ρ' b') → ∀ σ' F' μ' H', ExtM F3 μ2 H3 F' μ' H' → Sx X.K CA F' μ' H' b' → En X.K CA F' μ' H' ρ' σ' → P (i + 1) σ' H' :=
        fun {ρ' b'} o4 σ' F' μ' H' e' s' n' => ⟨hlt, ρ', b', F', μ', e2.trans s2 (e3.m.trans s3 e'), s', n', OkS.shift e' s' o4⟩
      cases q2 : m ρ3 bx2 with
      | nx ρ' b' => simp only [q2] at o3; exact fin o3
      | ct ρ' b' => simp only [q2] at o3; exact fin o3
      | bk ρ' b' => simp only [q2] at o3; exact o3
      | rt r b' => simp only [q2] at o3; exact o3
      | exn c ns ds ρ' b' => simp only [q2] at o3; exact o3
      | stk => simp only [q2] at o3; exact o3
theorem ss_for {is : List Nat} {mi : MI} {g : D → Sl → Option Sl} {m : MS} (hF : Frm X W) (hi : SI X CA W tg iter mi) (hg : SG X CA tg is g) (hb : SB X CA W sts m) (hs : ∀ x, foldedSetIterable iter X.env x = pure x := by intro _; rfl) : SS X CA W (.For tg iter sts [] pos) (mFor mi g m) := by
  obtain ⟨wi, i1, i2⟩ := hi.ex
  obtain ⟨tg', g1, g2⟩ := hg.ex
  obtain ⟨tb, b1, b2⟩ := hb.ex
  refine ⟨_, ps_for hF.po hF.calm i1 g1 b1 hs, fun ρ bx F μ σ H D s n o => i2 ρ bx F μ σ H _ s n ?_⟩
  have o' : OkS X.K CA W F μ H D (liftE (mi ρ bx) ρ fun ds b => loop g m ds ρ b) := o
  cases q : mi ρ bx with
  | stk => rw [q] at o'; exact o'
  | exn c ns ds b => rw [q] at o'; exact fun cls dx F' H' e' s' x => o' cls dx σ F' μ H' e'.m s' (n.ext s e') x
  | ok ds b =>
    rw [q] at o'
    intro J F1 H1 e1 s1 wk
    exact loop_ok g2 b2 s1 wk (n.ext s e1) (OkS.shift e1.m s1 o')

/-! ### what is walked -/
theorem pi_or {w w' : TI} (h : PI X tg iter w) (h' : PI X tg iter w') : PI X tg iter (fun σ H R => w σ H R ∨ w' σ H R) :=
  ⟨fun pins s σ H R I q => q.elim (h.run pins s σ H R I) (h'.run pins s σ H R I)⟩
def D.it : D → Option (List D)
  | .tup ds => some ds
  | .lst ds => some ds
  | .rol ds => some ds
  | _ => none
def iSeq (m : ME) : MI := fun ρ bx => (m ρ bx).bind fun r b => match r.d.it with
  | some ds => .ok ds b
  | none => .stk
theorem Rp.seq {K : PySem.W.Frag} {CA : Ly} {F : Addr → Prop} {μ : List Addr} {H : Hp} {d : D} {v : V} {ds : List D} (h : Rp K CA F μ H d v) (e : d.it = some ds) :
    ∃ a vs, v = .ref a ∧ Rps K CA F μ H ds vs ∧ ((∀ (F' : Addr → Prop) (H' : Hp), (∀ a, F a → F' a) → Stay F H H' → SqT K H' a vs) ∨ ∀ (F' : Addr → Prop) (H' : Hp), (∀ a, F a → F' a) → Stay F H H' → SqL K H' a vs) := by
  cases d with
  | tup xs =>
    obtain ⟨a, vs, q1, q2, q3⟩ := h
    cases e
    exact ⟨a, vs, q1, q3, .inl fun F' H' hF hs => (q2.mono hF hs).sq⟩
  | lst xs =>
    obtain ⟨a, vs, q1, q2, q3⟩ := h
    cases e
    exact ⟨a, vs, q1, q3, .inr fun F' H' hF hs => (q2.mono hF hs).sq⟩
  | rol xs =>
    obtain ⟨a, vs, q1, q2, q3⟩ := h
    cases e
    exact ⟨a, vs, q1, q3, .inr fun F' H' hF hs => (q2.mono hF hs).sq⟩
  | _ => cases e
theorem si_seq {m : ME} (h : SE X CA W iter m) : SI X CA W tg iter (iSeq m) := by
  obtain ⟨te, t1, t2⟩ := h.dat
  refine ⟨_, pi_or (pi_list t1) (pi_tup t1), fun ρ bx F μ σ H R s n o => ?_⟩
  have key : ∀ Q : VK, (∀ d b1 v F1 H1 ds, Ext F μ H F1 H1 → Sx X.K CA F1 μ H1 b1 → Rp X.K CA F1 μ H1 d v → d.it = some ds → iSeq m ρ bx = .ok ds b1 → Q v H1) → te σ H Q := by
    intro Q k
    refine t2 ρ bx F μ σ H Q s n ?_
    unfold iSeq at o k
    cases q : m ρ bx with
    | ok r b =>
      rw [q] at o k
      intro v F' H' e' s' rr
      cases q2 : r.d.it with
      | none => simp only [Out.bind_ok, q2] at o
      | some ds => exact k r.d b v F' H' ds e' s' rr q2 (by simp only [Out.bind_ok, q2])
    | exn c ns ds b => rw [q] at o; exact o
    | stk => rw [q] at o; exact o
  cases q : m ρ bx with
  | stk => unfold iSeq at o; rw [q] at o; exact o.elim
  | exn c ns es b =>
    refine .inl (key _ fun d b1 v F1 H1 ds e1 s1 rr hd hk => ?_)
    unfold iSeq at hk; rw [q] at hk; cases hk
  | ok r b0 =>
    have mk : ∀ {d : D} {b1 : List D} {v : V} {F1 : Addr → Prop} {H1 : Hp} {ds : List D}, iSeq m ρ bx = .ok ds b1 → d = r.d ∧ b1 = b0 → True := fun _ _ => trivial
    cases hd : r.d.it with
    | none => unfold iSeq at o; simp only [q, Out.bind_ok, hd] at o
    | some ds0 =>
      have hi : iSeq m ρ bx = .ok ds0 b0 := by unfold iSeq; simp only [q, Out.bind_ok, hd]
      rw [hi] at o
      have key2 : ∀ Q : VK, (∀ v F1 H1, Ext F μ H F1 H1 → Sx X.K CA F1 μ H1 b0 → Rp X.K CA F1 μ H1 r.d v → Q v H1) → te σ H Q := fun Q k => t2 ρ bx F μ σ H Q s n (by rw [q]; exact fun v F' H' e' s' rr => k v F' H' e' s' rr)
      cases rd : r.d with
      | tup xs =>
        rw [rd] at hd; cases hd
        refine .inr (key2 _ fun v F1 H1 e1 s1 rr => ?_)
        rw [rd] at rr
        obtain ⟨a, vs, q1, q2, q3⟩ := rr
        refine ⟨a, q1, ⟨vs, q2.sq⟩, o _ F1 H1 e1 s1 fun i F2 μ2 H2 bx2 e2 s2 => ?_⟩
        have q4 : SqT X.K H2 a vs := (q2.mono e2.up (s1.stayM e2)).sq
        refine ⟨fun d hd => ?_, fun hd => ⟨vs, q4, by rw [hd, q3.length]; exact Nat.le_refl _⟩⟩
        obtain ⟨v', v1, v2⟩ := q3.get hd
        refine ⟨⟨vs, v', q4, v1⟩, fun x H' y => ?_⟩
        obtain ⟨rfl, y2⟩ := y
        refine ⟨F2, Ext.refl, s2, ?_⟩
        have := y2 vs q4
        rw [v1] at this; cases this
        exact v2.extM s1 e2
      | lst xs =>
        rw [rd] at hd; cases hd
        refine .inl (key2 _ fun v F1 H1 e1 s1 rr => ?_)
        rw [rd] at rr
        obtain ⟨a, vs, q1, q2, q3⟩ := rr
        refine ⟨a, q1, ⟨vs, q2.sq⟩, o _ F1 H1 e1 s1 fun i F2 μ2 H2 bx2 e2 s2 => ?_⟩
        have q4 : SqL X.K H2 a vs := (q2.mono e2.up (s1.stayM e2)).sq
        refine ⟨fun d hd => ?_, fun hd => ⟨vs, q4, by rw [hd, q3.length]; exact Nat.le_refl _⟩⟩
        obtain ⟨v', v1, v2⟩ := q3.get hd
        refine ⟨⟨vs, v', q4, v1⟩, fun x H' y => ?_⟩
        obtain ⟨rfl, y2⟩ := y
        refine ⟨F2, Ext.refl, s2, ?_⟩
        have := y2 vs q4
        rw [v1] at this; cases this
        exact v2.extM s1 e2
      | rol xs =>
        rw [rd] at hd; cases hd
        refine .inl (key2 _ fun v F1 H1 e1 s1 rr => ?_)
        rw [rd] at rr
        obtain ⟨a, vs, q1, q2, q3⟩ := rr
        refine ⟨a, q1, ⟨vs, q2.sq⟩, o _ F1 H1 e1 s1 fun i F2 μ2 H2 bx2 e2 s2 => ?_⟩
        have q4 : SqL X.K H2 a vs := (q2.mono e2.up (s1.stayM e2)).sq
        refine ⟨fun d hd => ?_, fun hd => ⟨vs, q4, by rw [hd, q3.length]; exact Nat.le_refl _⟩⟩
        obtain ⟨v', v1, v2⟩ := q3.get hd
        refine ⟨⟨vs, v', q4, v1⟩, fun x H' y => ?_⟩
        obtain ⟨rfl, y2⟩ := y
        refine ⟨F2, Ext.refl, s2, ?_⟩
        have := y2 vs q4
        rw [v1] at this; cases this
        exact v2.extM s1 e2
      | _ => rw [rd] at hd; cases hd
/-! ranges -/
def rng (lo : Int) (n : Nat) : List D := (List.range n).map fun (i : Nat) => D.int (lo + (i : Int))
theorem rng_get {lo : Int} {n i : Nat} {d : D} (h : (rng lo n)[i]? = some d) : i < n ∧ d = .int (lo + i) := by
  unfold rng at h
  rw [List.getElem?_map] at h
  cases q : (List.range n)[i]? with
  | none => rw [q] at h; cases h
  | some j =>
    rw [q] at h
    obtain ⟨h1, h2⟩ := List.getElem?_eq_some_iff.mp q
    simp at h1 h2
    subst h2
    exact ⟨h1, (Option.some.inj h).symm⟩
theorem rng_len {lo : Int} {n : Nat} : (rng lo n).length = n := by simp [rng]
theorem wk_rng {K : PySem.W.Frag} {F : Addr → Prop} {μ : List Addr} {H : Hp} {lo : Int} {n : Nat} : Wk K CA (Itr lo n) F μ H (rng lo n) := by
  intro i F2 μ2 H2 bx2 e2 s2
  refine ⟨fun d hd => ?_, fun hi => by rw [rng_len] at hi; exact Nat.le_of_eq hi.symm⟩
  obtain ⟨h1, rfl⟩ := rng_get hd
  refine ⟨h1, fun x H' y => ?_⟩
  obtain ⟨rfl, rfl⟩ := y
  exact ⟨F2, Ext.refl, s2, rfl⟩
def iRng1M (m : ME) : MI := fun ρ bx => (m ρ bx).bind fun r b => match r.d with
  | .int j => if -(2 ^ 62) ≤ j ∧ j < 2 ^ 62 then .ok (rng 0 j.toNat) b else .stk
  | _ => .stk
def iRng2M (m1 m2 : ME) : MI := fun ρ bx => (m1 ρ bx).bind fun r b => (m2 ρ b).bind fun r2 b2 => match r.d, r2.d with
  | .int i, .int j => if -(2 ^ 62) ≤ i ∧ i < 2 ^ 62 ∧ -(2 ^ 62) ≤ j ∧ j < 2 ^ 62 then .ok (rng i (j - i).toNat) b2 else .stk
  | _, _ => .stk
theorem si_rng1 {a : Expr} {m : ME} {p : Pos} (hg : Gl X "range") (hm : X.mg "range" = none) (h : SE X CA W a m) (hs : starEach [a] X.env = [(false, eval a X.env)] := by rfl) : SI X CA W tg (.Call (.Name "range" p) [a] [] pos) (iRng1M m) := by
  obtain ⟨te, t1, t2⟩ := h.dat
  refine ⟨_, pi_range1 hg hm (pa_cons t1 pa_nil hs) hs, fun ρ bx F μ σ H R s n o => t2 ρ bx F μ σ H _ s n ?_⟩
  unfold iRng1M at o
  cases q : m ρ bx with
  | stk => rw [q] at o; exact o
  | exn c ns ds b => rw [q] at o; exact o
  | ok r b =>
    rw [q] at o
    intro v F1 H1 e1 s1 rr
    simp only [Out.bind_ok] at o
    cases rd : r.d with
    | int j =>
      rw [rd] at rr o
      by_cases hj : -(2 ^ 62) ≤ j ∧ j < 2 ^ 62
      · simp only [if_pos hj] at o
        exact ⟨j, by rw [show v = .int j from rr], hj.1, hj.2, o _ F1 H1 e1 s1 wk_rng⟩
      · simp only [if_neg hj] at o
    | _ => rw [rd] at o; exact o.elim
theorem si_rng2 {a a2 : Expr} {m m2 : ME} {p : Pos} (hg : Gl X "range") (hm : X.mg "range" = none) (h : SE X CA W a m) (h2 : SE X CA W a2 m2) (hs : starEach [a, a2] X.env = [(false, eval a X.env), (false, eval a2 X.env)] := by rfl) (hs2 : starEach [a2] X.env = [(false, eval a2 X.env)] := by rfl) :
    SI X CA W tg (.Call (.Name "range" p) [a, a2] [] pos) (iRng2M m m2) := by
  obtain ⟨te, t1, t2⟩ := h.dat
  obtain ⟨ue, u1, u2⟩ := h2.dat
  refine ⟨_, pi_range2 hg hm (pa_cons t1 (pa_cons u1 pa_nil hs2) (by rw [hs, hs2])) hs hs2, fun ρ bx F μ σ H R s n o => t2 ρ bx F μ σ H _ s n ?_⟩
  unfold iRng2M at o
  cases q : m ρ bx with
  | stk => rw [q] at o; exact o
  | exn c ns ds b => rw [q] at o; exact o
  | ok r b =>
    rw [q] at o
    intro v F1 H1 e1 s1 rr
    refine u2 ρ b F1 μ σ H1 _ s1 (n.ext s e1) ?_
    simp only [Out.bind_ok] at o
    cases q2 : m2 ρ b with
    | stk => rw [q2] at o; exact o
    | exn c ns ds b => rw [q2] at o; exact fun cls dx F' H' e' s' x => o cls dx F' H' (e1.trans e') s' x
    | ok r2 b2 =>
      rw [q2] at o
      intro v2 F2 H2 e2 s2 rr2
      simp only [Out.bind_ok] at o
      cases rd : r.d with
      | int i => cases rd2 : r2.d with
        | int j =>
          rw [rd] at rr o
          rw [rd2] at rr2 o
          by_cases hj : -(2 ^ 62) ≤ i ∧ i < 2 ^ 62 ∧ -(2 ^ 62) ≤ j ∧ j < 2 ^ 62
          · simp only [if_pos hj] at o
            exact ⟨i, j, by rw [show v = .int i from rr, show v2 = .int j from rr2], hj, o _ F2 H2 (e1.trans e2) s2 wk_rng⟩
          · simp only [if_neg hj] at o
        | _ => rw [rd, rd2] at o; exact o.elim
      | _ => rw [rd] at o; exact o.elim
end
end DL

set_option Elab.async false
set_option linter.all false
set_option maxRecDepth 100000
set_option maxHeartbeats 4000000
/-! DL5: comprehensions; operations on values. -/
namespace DL
open PySem PySem.Spec L2
/-! ### readings that a computation itself gives -/
section
variable (K : PySem.W.Frag) (CA : Ly) (W : WX)
def tM (m : ME) : TE := fun σ H Q => ∃ ρ bx F μ, Sx K CA F μ H bx ∧ En K CA F μ H ρ σ ∧ OkG K CA W F μ σ H (fun F' H' => RRv K CA F' μ H H') (m ρ bx) Q
def tMD (m : ME) : TE := fun σ H Q => ∃ ρ bx F μ, Sx K CA F μ H bx ∧ En K CA F μ H ρ σ ∧ OkG K CA W F μ σ H (fun F' H' => Rp K CA F' μ H') ((m ρ bx).map R.d) Q
def tMB (m : MB) : TT := fun σ H Q => ∃ ρ bx F μ, Sx K CA F μ H bx ∧ En K CA F μ H ρ σ ∧ OkG K CA W F μ σ H (fun _ _ (b c : Bool) => c = b) (m ρ bx) Q
def tMG (is : List Nat) (g : D → Sl → Option Sl) : TG := fun v σ H Q => ∃ d ρ bx F μ, Sx K CA F μ H bx ∧ En K CA F μ H ρ σ ∧ Rp K CA F μ H d v ∧ ∃ ρ', g d ρ = some ρ' ∧ ∀ σ', En K CA F μ H ρ' σ' → Agr is σ σ' → Q σ' H
end
section
variable {X : Cx} {CA : Ly} {W : WX} {e : Expr}
theorem SE.tD {m : ME} (h : SE X CA W e m) : PE X e (tMD X.K CA W m) := by
  obtain ⟨t, h1, h2⟩ := h.dat
  exact ⟨fun pins s σ H Q I ⟨ρ, bx, F, μ, sx, n, o⟩ => h1.run pins s σ H Q I (h2 ρ bx F μ σ H Q sx n o)⟩
theorem ST.t {m : MB} (h : ST X CA W e m) : PT X e (tMB X.K CA W m) := by
  obtain ⟨t, h1, h2⟩ := h.ex
  exact ⟨fun pins s σ H Q I ⟨ρ, bx, F, μ, sx, n, o⟩ => h1.run pins s σ H Q I (h2 ρ bx F μ σ H Q sx n o)⟩
theorem SG.t {is : List Nat} {g : D → Sl → Option Sl} (h : SG X CA e is g) : PG X e (tMG X.K CA is g) := by
  obtain ⟨t, h1, h2⟩ := h.ex
  exact ⟨fun pins s σ H v u Q I r ⟨d, ρ, bx, F, μ, sx, n, rd, o⟩ => h1.run pins s σ H v u Q I r (h2 d v ρ bx F μ σ H Q sx n rd o)⟩
end
/-! ### list comprehensions -/
def noX {α : Type} : Out α → Out α
  | .ok r b => .ok r b
  | _ => .stk
abbrev W0 : WX := fun _ _ _ _ => False
def compL (g : D → Sl → Option Sl) (t : MB) (m : ME) : List D → Sl → List D → List D → Out (List D)
  | [], _, bx, acc => .ok acc bx
  | d :: ds, ρ, bx, acc => match g d ρ with
    | none => .stk
    | some ρ1 => (noX (t ρ1 bx)).bind fun k b1 => if k then (noX (m ρ1 b1)).bind fun r b2 => if acc.length < sizeLine then compL g t m ds ρ b2 (acc ++ [r.d]) else .stk else compL g t m ds ρ b1 acc
def wipeD (ρ : Sl) : List Nat → Sl
  | [] => ρ
  | v :: vs => (wipeD ρ vs).set v none
def mComp (mi : MI) (vs : List Nat) (g : D → Sl → Option Sl) (t : MB) (m : ME) : ME := fun ρ bx => (mi ρ bx).bind fun ds b => (compL g t m ds (wipeD ρ vs) b []).bind fun acc b' => .ok (.new (.lst acc)) b'
def tTrue : MB := fun _ bx => .ok true bx
section
variable {K : PySem.W.Frag} {CA : Ly} {F : Addr → Prop} {μ : List Addr} {H : Hp} {ρ : Sl} {σ : L2.St}
theorem En.wipe (n : En K CA F μ H ρ σ) : ∀ vs : List Nat, En K CA F μ H (wipeD ρ vs) (L2.wipe σ vs)
  | [] => n
  | v :: vs => by
    have n1 := En.wipe n vs
    refine ⟨by unfold wipeD L2.wipe; rw [List.length_set, List.length_set]; exact n1.len, fun i d q => ?_⟩
    unfold wipeD at q
    unfold L2.wipe
    by_cases e : v = i
    · subst e
      by_cases hv : v < (wipeD ρ vs).length
      · rw [List.getElem?_set_self hv] at q; cases q
      · rw [List.getElem?_eq_none (by simpa using hv)] at q; cases q
    · rw [List.getElem?_set_ne e] at q
      obtain ⟨w, q1, q2⟩ := n1.at_ i d q
      exact ⟨w, by rw [List.getElem?_set_ne e]; exact q1, q2⟩
theorem wipe_agr {σ σ' : L2.St} {is : List Nat} : ∀ {vs : List Nat}, (∀ i ∈ is, i ∈ vs) → Agr is σ σ' → wipe σ' vs = wipe σ vs := by
  intro vs hs ⟨hl, ha⟩
  have at_ : ∀ (τ : L2.St) (vs : List Nat) (j : Nat), (wipe τ vs)[j]? = if j ∈ vs then (if j < τ.length then some none else none) else τ[j]? := by
    intro τ vs
    induction vs with
    | nil => intro j; simp [wipe]
    | cons v vs ih =>
      intro j
      unfold wipe
      by_cases e : v = j
      · subst e
        by_cases hv : v < τ.length
        · rw [List.getElem?_set_self (by rw [wipe_length]; exact hv)]; simp [hv]
        · rw [List.getElem?_eq_none (by rw [List.length_set, wipe_length]; exact Nat.le_of_not_lt hv)]; simp [hv]
      · rw [List.getElem?_set_ne e, ih j]
        have : ¬ j = v := fun z => e z.symm
        simp [this]
  apply List.ext_getElem?
  intro j
  rw [at_, at_]
  by_cases hj : j ∈ vs
  · simp [hj, hl]
  · simp [hj]; exact ha j fun z => hj (hs j z)
theorem wipe_wipe {σ : L2.St} {vs : List Nat} : wipe (wipe σ vs) vs = wipe σ vs := by
  apply wipe_agr (is := vs) (fun _ h => h)
  refine ⟨wipe_length σ vs, fun j hj => ?_⟩
  induction vs with
  | nil => rfl
  | cons v vs ih =>
    unfold wipe
    rw [List.getElem?_set_ne fun e => hj (by simp [e])]
    exact ih fun z => hj (List.mem_cons_of_mem _ z)
end
theorem Sx.free {K : PySem.W.Frag} {CA : Ly} {F : Addr → Prop} {μ : List Addr} {H : Hp} {bx : List D} {p : Addr} {o : HO} {ws : List V} (s : Sx K CA F μ H bx) (hF : ¬ F p) (hm : p ∉ μ) (hp : H p = some (.lst ws)) : Sx K CA F μ (upd H p o) bx := by
  refine ⟨s.len, fun n d a h1 h2 => At.mono (h := s.at_ n d a h1 h2) (hF := fun _ z => z) (hm := fun _ _ z => z) (hs := fun b u fb e => ?_) (ha := fun u e => ?_), s.nd, s.dj, fun a fa => ?_, fun a u fa e => ?_, Tabs.keep s.tb fun b u e z => ?_⟩
  · rw [upd_ne (fun (z : b = p) => hF (z ▸ fb))]; exact e
  · rw [upd_ne (fun (z : a = p) => hm (z ▸ List.mem_of_getElem? h2))]; exact e
  · obtain ⟨u, q⟩ := s.tr a fa
    exact ⟨u, by rw [upd_ne (fun (z : a = p) => hF (z ▸ fa))]; exact q⟩
  · rw [upd_ne (fun (z : a = p) => hF (z ▸ fa))] at e
    exact s.ft a u fa e
  · rw [upd_ne (fun (q : b = p) => ?_)]
    · exact e
    · rw [q, hp] at e
      cases e
      rcases z with ⟨_, z⟩ | ⟨_, _, z⟩
      · cases z
      · unfold LamX.CodeO at z; cases z
section
variable {X : Cx} {CA : Ly} {W : WX} {elt tg iter : Expr} {ifs : List Expr} {scope : Scope} {own : List (Str × Nat)} {pos : Pos}
theorem comp_ok {K : PySem.W.Frag} {mi : MI} {g : D → Sl → Option Sl} {is : List Nat} {t : MB} {m : ME} {wi : TI} (hsub : ∀ i ∈ is, i ∈ own.map (·.2))
    (i2 : ∀ ρ bx F μ σ H R, Sx K CA F μ H bx → En K CA F μ H ρ σ → (match mi ρ bx with
      | .ok ds b => ∀ J F1 H1, Ext F μ H F1 H1 → Sx K CA F1 μ H1 b → Wk K CA J F1 μ H1 ds → R J H1
      | .exn c ns ds b => ∀ cls dx F' H', Ext F μ H F' H' → Sx K CA F' μ H' b → ExAt K CA F' μ H' c ns ds cls dx → W cls dx σ H'
      | .stk => False) → wi σ H R) :
    ∀ ρ bx F μ σ H Q, Sx K CA F μ H bx → En K CA F μ H ρ σ → OkG K CA W F μ σ H (fun F' H' => RRv K CA F' μ H H') (mComp mi (own.map (·.2)) g t m ρ bx) Q →
      tLc wi (tMG K CA is g) (tMB K CA W0 t) (tMD K CA W0 m) (own.map (·.2)) σ H Q := by
  intro ρ bx F μ σ H Q s n o
  refine i2 ρ bx F μ σ H _ s n ?_
  unfold mComp at o
  cases q : mi ρ bx with
  | stk => rw [q] at o; exact o
  | exn c ns ds b => rw [q] at o; exact o
  | ok ds b =>
    rw [q] at o
    intro J F1 H1 e1 s1 wk D hD
    let vs := own.map (·.2)
    have nD := s1.notIn hD
    -- the turn's invariant
    let P : Nat → Hp → Prop := fun i H2 => i ≤ ds.length ∧ ∃ bx2 acc ws F2, Ext F1 μ H1 F2 H2 ∧ Sx K CA F2 μ H2 bx2 ∧ ¬ F2 D ∧ H2 D = some (.lst ws) ∧ Rps K CA F2 μ H2 acc ws ∧
      OkG K CA W F1 μ σ H1 (fun F' H' => RRv K CA F' μ H1 H') ((compL g t m (ds.drop i) (wipeD ρ vs) bx2 acc).bind fun acc b' => .ok (.new (.lst acc)) b') Q
    refine ⟨fun i k H2 => k = ds.length - i ∧ P i H2, ⟨ds.length - 0, rfl, Nat.zero_le _, b, [], [], F1, Ext.tmp hD, s1.tmp hD, s1.notF hD, upd_same, trivial, OkG.shiftR e1 o⟩, ?_⟩
    rintro i k H2 ⟨rfl, hi, bx2, acc, ws, F2, e2, s2, f2, hD2, ra, o2⟩
    have e12 : ExtM F1 μ H1 F2 μ H2 := e2.m
    obtain ⟨w1, w2⟩ := wk i F2 μ H2 bx2 e12 s2
    by_cases hl : i = ds.length
    · refine .inl ⟨w2 hl, ?_⟩
      rw [hl, List.drop_length] at o2
      exact o2 (.ref D) F2 H2 e2 s2 ⟨D, rfl, .of hD, nD, f2, ws, hD2, ra⟩
    · have hlt : i < ds.length := Nat.lt_of_le_of_ne hi hl
      obtain ⟨go, yl⟩ := w1 _ (List.getElem?_eq_getElem hlt)
      refine .inr ⟨go, P (i + 1), fun H' p => ⟨ds.length - (i + 1), by omega, rfl, p⟩, fun x H3 y => ?_⟩
      obtain ⟨F3, e3, s3, r3⟩ := yl x H3 y
      rw [List.drop_eq_getElem_cons hlt] at o2
      unfold compL at o2
      cases qg : g ds[i] (wipeD ρ vs) with
      | none => simp only [qg] at o2; exact o2.elim
      | some ρ1 =>
        simp only [qg] at o2
        have e13 : Ext F μ H F3 H3 := e1.trans (e2.trans e3)
        refine ⟨ds[i], wipeD ρ vs, bx2, F3, μ, s3, (n.ext s e13).wipe vs, r3, ρ1, qg, fun σ2 n2 a2 => ⟨?_, ?_⟩⟩
        · rw [wipe_agr hsub a2, wipe_wipe]
        have keepD : ∀ {F4 : Addr → Prop} {H4 : Hp}, Ext F3 μ H3 F4 H4 → H4 D = some (.lst ws) ∧ ¬ F4 D := fun {F4 H4} e4 => by
          have a3 : H3 D = some (.lst ws) := e3.keep _ _ hD2 nD nt_lst
          refine ⟨e4.keep _ _ a3 nD nt_lst, fun z => ?_⟩
          rcases e4.fr D z with z | z
          · rcases e3.fr D z with z | z
            · exact f2 z
            · exact z.1 _ hD2 nt_lst
          · exact z.1 _ a3 nt_lst
        refine ⟨ρ1, bx2, F3, μ, s3, n2, ?_⟩
        cases qt : t ρ1 bx2 with
        | stk => rw [qt] at o2; exact o2.elim
        | exn c ns es b => rw [qt] at o2; exact o2.elim
        | ok kk b1 =>
          rw [qt] at o2
          intro v F4 H4 e4 s4 ev
          subst ev
          simp only [noX, Out.bind_ok] at o2
          cases v with
          | false =>
            refine iteF ⟨hlt, b1, acc, ws, F4, e2.trans (e3.trans e4), s4, (keepD e4).2, (keepD e4).1, ra.ext s2 (e3.trans e4), ?_⟩
            simpa using o2
          | true =>
            simp only [if_true] at o2
            refine iteT ⟨ρ1, b1, F4, μ, s4, n2.ext s3 e4, ?_⟩
            cases qm : m ρ1 b1 with
            | stk => rw [qm] at o2; exact o2.elim
            | exn c ns es b => rw [qm] at o2; exact o2.elim
            | ok r b2 =>
              rw [qm] at o2
              intro yv F5 H5 e5 s5 ry
              simp only [noX, Out.bind_ok] at o2
              have e35 := e4.trans e5
              by_cases hz : acc.length < sizeLine
              · rw [if_pos hz] at o2
                have ra5 := ra.ext s2 (e3.trans e35)
                have kd := keepD e35
                have st : Stay F5 H5 (upd H5 D (.lst (ws ++ [yv]))) := fun a u fa h => by
                  rw [upd_ne (fun (z : a = D) => kd.2 (z ▸ fa))]; exact h
                refine ⟨ws, kd.1, by rw [← ra5.length]; exact hz, hlt, b2, acc ++ [r.d], ws ++ [yv], F5, ?_, s5.free kd.2 nD kd.1, kd.2, upd_same, (Rps.append ra5 (show Rps K CA F5 μ H5 [r.d] [yv] from ⟨ry, trivial⟩)).mono (fun _ z => z) (fun _ _ z => z) st, o2⟩
                have e25 := e2.trans (e3.trans e35)
                refine ⟨e25.up, e25.fr, fun a u h hm z => ?_⟩
                rw [upd_ne (ne_of_none h hD)]; exact e25.keep a u h hm z
              · rw [if_neg hz] at o2; exact o2.elim
theorem se_comp {mi : MI} {g : D → Sl → Option Sl} {is : List Nat} {t : MB} {m : ME} (hc : X.calm = true) (hN : X.N.Nodup) (hi : SI X CA W tg iter mi) (ok : BlkOk X.N X.env.scope scope own) (hsub : ∀ i ∈ is, i ∈ own.map (·.2))
    (hg : ∀ (s : Shared) (H : Hp) (C : Addr) (cl : List (Str × Addr)) (fp : List Addr), SG (X.blk s H scope (compEnvC scope cl C X.env) fp) CA tg is g)
    (ht : ∀ (s : Shared) (H : Hp) (C : Addr) (cl : List (Str × Addr)) (fp : List Addr), PTs (X.blk s H scope (compEnvC scope cl C X.env) fp) ifs (tMB X.K CA W0 t))
    (he : ∀ (s : Shared) (H : Hp) (C : Addr) (cl : List (Str × Addr)) (fp : List Addr), SE (X.blk s H scope (compEnvC scope cl C X.env) fp) CA W0 elt m) (hs : ∀ x, foldedSetIterable iter X.env x = pure x := by intro _; rfl) :
    SE X CA W (.ListComp elt [⟨tg, iter, ifs, 0⟩] scope pos) (mComp mi (own.map (·.2)) g t m) := by
  obtain ⟨wi, i1, i2⟩ := hi.ex
  exact ⟨_, pe_lc hc hN i1 ok (fun s H C cl fp => (hg s H C cl fp).t) ht (fun s H C cl fp => (he s H C cl fp).tD) hs, comp_ok hsub i2⟩
/-- name = [..] on one line: the name frozen, or boxed -/
theorem ss_setComp {i : Nat} {y : Str} {py spos : Pos} {mi : MI} {g : D → Sl → Option Sl} {is : List Nat} {t : MB} {m : ME} (hc : X.calm = true) (hN : X.N.Nodup) (hy : X.N[i]? = some y) (hyl : X.env.scope.names.lookup y = some .local)
    (hsw : swapsWith (.ListComp elt [⟨tg, iter, ifs, 0⟩] scope pos) (some (.Name y py)) spos.line X.env = pure true) (hi : SI X CA W tg iter mi) (ok : BlkOk X.N X.env.scope scope own) (hsub : ∀ i ∈ is, i ∈ own.map (·.2))
    (hg : ∀ (s : Shared) (H : Hp) (C : Addr) (cl : List (Str × Addr)) (fp : List Addr), SG (X.blk s H scope (compEnvC scope cl C X.env) fp) CA tg is g)
    (ht : ∀ (s : Shared) (H : Hp) (C : Addr) (cl : List (Str × Addr)) (fp : List Addr), PTs (X.blk s H scope (compEnvC scope cl C X.env) fp) ifs (tMB X.K CA W0 t))
    (he : ∀ (s : Shared) (H : Hp) (C : Addr) (cl : List (Str × Addr)) (fp : List Addr), SE (X.blk s H scope (compEnvC scope cl C X.env) fp) CA W0 elt m) (hs : ∀ x, foldedSetIterable iter X.env x = pure x := by intro _; rfl) :
    SS X CA W (.Assign [.Name y py] (.ListComp elt [⟨tg, iter, ifs, 0⟩] scope pos) spos) (mAsg (mComp mi (own.map (·.2)) g t m) (gN i)) := by
  obtain ⟨wi, i1, i2⟩ := hi.ex
  have key : SE X CA W (.ListComp elt [⟨tg, iter, ifs, 0⟩] scope pos) (mComp mi (own.map (·.2)) g t m) := se_comp hc hN hi ok hsub hg ht he hs
  have h1 := ps_setLc (i := i) (py := py) (g := tMG X.K CA is g) (tt := tMB X.K CA W0 t) (te := tMD X.K CA W0 m) hc hN hy hyl hsw i1 ok (fun s H C cl fp => (hg s H C cl fp).t) ht (fun s H C cl fp => (he s H C cl fp).tD) hs
  have h2 := comp_ok (K := X.K) (W := W) (CA := CA) (t := t) (m := m) (g := g) hsub i2
  -- the reading with what is new frozen
  have h3 : ∀ ρ bx F μ σ H Q, Sx X.K CA F μ H bx → En X.K CA F μ H ρ σ → OkG X.K CA W F μ σ H (fun F' H' => Rp X.K CA F' μ H') ((mComp mi (own.map (·.2)) g t m ρ bx).map R.d) Q → tLc wi (tMG X.K CA is g) (tMB X.K CA W0 t) (tMD X.K CA W0 m) (own.map (·.2)) σ H Q := by
    have se : SE X CA W (.ListComp elt [⟨tg, iter, ifs, 0⟩] scope pos) (mComp mi (own.map (·.2)) g t m) := key
    intro ρ bx F μ σ H Q s n o
    exact h2 ρ bx F μ σ H Q s n (OkG.unfrz s o)
  refine ⟨_, h1, fun ρ bx F μ σ H D s n o => ?_⟩
  refine h3 ρ bx F μ σ H _ s n ?_
  have o' : OkS X.K CA W F μ H D (liftE ((mComp mi (own.map (·.2)) g t m ρ bx).map R.d) ρ fun d b => .nx (ρ.set i (some d)) b) := by rw [liftE_map]; exact o
  exact OkS.seqE s n o' fun d b v F1 H1 e1 s1 rr o1 => o1 _ F1 μ H1 e1.m s1 ((n.ext s e1).set rr)
end
end DL

set_option Elab.async false
set_option linter.all false
set_option maxRecDepth 100000
set_option maxHeartbeats 4000000
/-! DL6: operations on values. -/
namespace DL
open PySem PySem.Spec L2
/-- what can be read as a list -/
def D.sL (bx : List D) : D → Option (List D)
  | .lst ds => some ds
  | .rol ds => some ds
  | .box n => match bx[n]? with
    | some (.lst ds) => some ds
    | _ => none
  | _ => none
/-- .. that stands in the heap by itself -/
def D.hL (bx : List D) : D → Option (List D)
  | .lst ds => some ds
  | .box n => match bx[n]? with
    | some (.lst ds) => some ds
    | _ => none
  | _ => none
def D.sT : D → Option (List D)
  | .tup ds => some ds
  | _ => none
def D.sq (bx : List D) (d : D) : Option (List D) := match d.sL bx with
  | some ds => some ds
  | none => d.sT
section
variable {K : PySem.W.Frag} {CA : Ly} {F : Addr → Prop} {μ : List Addr} {H : Hp} {bx : List D} {d : D} {v : V} {ds : List D}
theorem hL_at (s : Sx K CA F μ H bx) (r : Rp K CA F μ H d v) (e : d.hL bx = some ds) : ∃ a vs, v = .ref a ∧ H a = some (.lst vs) ∧ Rps K CA F μ H ds vs := by
  cases d with
  | lst xs =>
    cases e
    obtain ⟨a, vs, q1, q2, q3⟩ := r
    exact ⟨a, vs, q1, q2.2, q3⟩
  | box n =>
    obtain ⟨a, q1, q2⟩ := r
    unfold D.hL at e
    cases hb : bx[n]? with
    | none => simp only [hb] at e; cases e
    | some d' =>
      cases d' with
      | lst xs =>
        simp only [hb] at e
        cases e
        obtain ⟨vs, w1, w2⟩ := s.at_ n _ a hb q2
        exact ⟨a, vs, q1, w1, w2⟩
      | _ => simp only [hb] at e; cases e
  | _ => cases e
theorem sL_at (s : Sx K CA F μ H bx) (r : Rp K CA F μ H d v) (e : d.sL bx = some ds) : ∃ a vs, v = .ref a ∧ SqL K H a vs ∧ Rps K CA F μ H ds vs := by
  cases d with
  | lst xs =>
    cases e
    obtain ⟨a, vs, q1, q2, q3⟩ := r
    exact ⟨a, vs, q1, q2.sq, q3⟩
  | rol xs =>
    cases e
    obtain ⟨a, vs, q1, q2, q3⟩ := r
    exact ⟨a, vs, q1, q2.sq, q3⟩
  | box n =>
    obtain ⟨a, vs, h1, h2, h3⟩ := hL_at s r (d := .box n) (ds := ds) e
    exact ⟨a, vs, h1, .inl (.inl h2), h3⟩
  | _ => cases e
theorem sT_at (r : Rp K CA F μ H d v) (e : d.sT = some ds) : ∃ a vs, v = .ref a ∧ SqT K H a vs ∧ Rps K CA F μ H ds vs := by
  cases d with
  | tup xs =>
    cases e
    obtain ⟨a, vs, q1, q2, q3⟩ := r
    exact ⟨a, vs, q1, q2.sq, q3⟩
  | _ => cases e
theorem sq_at (s : Sx K CA F μ H bx) (r : Rp K CA F μ H d v) (e : d.sq bx = some ds) : ∃ a vs, v = .ref a ∧ (SqL K H a vs ∨ SqT K H a vs) ∧ Rps K CA F μ H ds vs := by
  unfold D.sq at e
  cases q : d.sL bx with
  | some xs =>
    rw [q] at e; cases e
    obtain ⟨a, vs, h1, h2, h3⟩ := sL_at s r q
    exact ⟨a, vs, h1, .inl h2, h3⟩
  | none =>
    rw [q] at e
    obtain ⟨a, vs, h1, h2, h3⟩ := sT_at r e
    exact ⟨a, vs, h1, .inr h2, h3⟩
theorem Rps.atI : ∀ {ds : List D} {vs : List V} {i : Int} {d : D}, Rps K CA F μ H ds vs → L2.atI ds i = some d → ∃ v, L2.atI vs i = some v ∧ Rp K CA F μ H d v := by
  intro ds vs i d r e
  unfold L2.atI at e ⊢
  rw [← r.length]
  cases q : ixN ds.length i with
  | none => rw [q] at e; cases e
  | some j =>
    rw [q] at e
    exact r.get e
end
section
variable {X : Cx} {CA : Ly} {W : WX} {e a b : Expr} {es : List Expr} {pos : Pos}
abbrev OK (r : D) (bx : List D) : Out R := .ok (.val r) bx
/-- a plain result -/
theorem okV {F : Addr → Prop} {μ : List Addr} {σ : L2.St} {H : Hp} {bx : List D} {d : D} {v : V} {Q : VK} (o : OkG X.K CA W F μ σ H (fun F' H' => RRv X.K CA F' μ H H') (OK d bx) Q) (s : Sx X.K CA F μ H bx) (r : Rp X.K CA F μ H d v) : Q v H := o v F H Ext.refl s r
/-- a new list -/
theorem okL {F : Addr → Prop} {μ : List Addr} {σ : L2.St} {H : Hp} {bx ds : List D} {vs : List V} {Q : VK} (o : OkG X.K CA W F μ σ H (fun F' H' => RRv X.K CA F' μ H H') (.ok (.new (.lst ds)) bx) Q) (s : Sx X.K CA F μ H bx) (r : Rps X.K CA F μ H ds vs) :
    ∀ p, H p = none → Q (.ref p) (upd H p (.lst vs)) := fun p hp => by
  have e2 := Ext.tmp (F := F) (μ := μ) (o := .lst vs) hp
  exact o (.ref p) F _ e2 (s.tmp hp) ⟨p, rfl, .of hp, s.notIn hp, s.notF hp, vs, upd_same, r.ext s e2⟩
/-- a new tuple -/
theorem okT {F : Addr → Prop} {μ : List Addr} {σ : L2.St} {H : Hp} {bx ds : List D} {vs : List V} {Q : VK} (o : OkG X.K CA W F μ σ H (fun F' H' => RRv X.K CA F' μ H H') (OK (.tup ds) bx) Q) (s : Sx X.K CA F μ H bx) (r : Rps X.K CA F μ H ds vs) :
    ∀ p, H p = none → Q (.ref p) (upd H p (.tup vs)) := fun p hp => by
  have e2 := Ext.new (o := .tup vs) s hp
  exact o (.ref p) _ _ e2 (s.new hp) ⟨p, vs, rfl, .inl ⟨.inr rfl, upd_same⟩, r.ext s e2⟩
/-- a box's list becomes another one -/
theorem okB {F : Addr → Prop} {μ : List Addr} {H : Hp} {bx ds : List D} {vs : List V} {n : Nat} {p : Addr} (s : Sx X.K CA F μ H bx) (hp : μ[n]? = some p) (r : Rps X.K CA F μ H ds vs) :
    Ext F μ H F (upd H p (.lst vs)) ∧ Sx X.K CA F μ (upd H p (.lst vs)) (bx.set n (.lst ds)) := by
  have pm : p ∈ μ := List.mem_of_getElem? hp
  have hF := s.dj p pm
  have st : Stay F H (upd H p (.lst vs)) := fun a u fa e => by rw [upd_ne (fun (z : a = p) => hF (z ▸ fa))]; exact e
  refine ⟨.all (fun _ z => z) (fun _ z => .inl z) fun a u e hm => by rw [upd_ne (fun (z : a = p) => hm (z ▸ pm))]; exact e, ⟨by rw [List.length_set]; exact s.len, fun m d a h1 h2 => ?_, s.nd, s.dj, fun a fa => ?_, fun a u fa e => ?_, Tabs.keep s.tb fun b u e z => ?_⟩⟩
  · by_cases e : n = m
    · subst e
      rw [hp] at h2; cases h2
      have hn : n < bx.length := by
        have := (List.getElem?_eq_some_iff.mp h1).1
        rwa [List.length_set] at this
      rw [List.getElem?_set_self hn] at h1
      cases h1
      exact ⟨vs, upd_same, r.mono (fun _ z => z) (fun _ _ z => z) st⟩
    · rw [List.getElem?_set_ne e] at h1
      have ne : a ≠ p := fun z => by
        subst z
        obtain ⟨i1, e1⟩ := List.getElem?_eq_some_iff.mp hp
        obtain ⟨i2, e2⟩ := List.getElem?_eq_some_iff.mp h2
        exact e ((List.getElem_inj s.nd).mp (e1.trans e2.symm))
      exact At.mono (h := s.at_ m d a h1 h2) (hF := fun _ z => z) (hm := fun _ _ z => z) (hs := st) (ha := fun u q => by rw [upd_ne ne]; exact q)
  · obtain ⟨u, q⟩ := s.tr a fa
    exact ⟨u, by rw [upd_ne (fun (z : a = p) => hF (z ▸ fa))]; exact q⟩
  · rw [upd_ne (fun (z : a = p) => hF (z ▸ fa))] at e
    exact s.ft a u fa e
  · rw [upd_ne (fun (q : b = p) => ?_)]
    · exact e
    · obtain ⟨n', hn', e2⟩ := List.mem_iff_getElem.mp pm
      have at_ := s.at_ n' _ p (List.getElem?_eq_getElem (s.len ▸ hn')) (by rw [List.getElem?_eq_getElem hn', e2])
      exact at_.plain u (q ▸ e) z

/-! ### + - * // % ** -/
theorem okIf {K : PySem.W.Frag} {F : Addr → Prop} {μ : List Addr} {σ : L2.St} {H : Hp} {α β : Type} {rel : (Addr → Prop) → Hp → α → β → Prop} {Q : β → Hp → Prop} {c : Prop} [Decidable c] {x : Out α} (o : OkG K CA W F μ σ H rel (if c then x else .stk) Q) : c ∧ OkG K CA W F μ σ H rel x Q := by
  by_cases h : c
  · rw [if_pos h] at o; exact ⟨h, o⟩
  · rw [if_neg h] at o; exact o.elim
/-- an operation on two ints, under a condition -/
def opII (C : Int → Int → Prop) [∀ i j, Decidable (C i j)] (g : Int → Int → D) : D → D → List D → Out R
  | .int i, .int j, bx => if C i j then OK (g i j) bx else .stk
  | _, _, _ => .stk
theorem dop_II {f : Value → Value → Sem Value} {C : Int → Int → Prop} [∀ i j, Decidable (C i j)] {gV : Int → Int → V} {g : Int → Int → D} (h : OpR X f (rI C gV)) (hg : ∀ i j F μ H, Rp X.K CA F μ H (g i j) (gV i j)) : DOp X CA W f (opII C g) := by
  refine ⟨_, h, fun x y vx vy bx F μ σ H Q s rx ry o => ?_⟩
  cases x <;> cases y <;> first | exact o.elim | skip
  rename_i i j
  obtain ⟨c, o⟩ := okIf (show OkG X.K CA W F μ σ H (fun F' H' => RRv X.K CA F' μ H H') (if C i j then OK (g i j) bx else .stk) Q from o)
  exact ⟨i, j, rx, ry, c, okV o s (hg _ _ _ _ _)⟩
def opII0 (g : Int → Int → D) : D → D → List D → Out R
  | .int i, .int j, bx => OK (g i j) bx
  | _, _, _ => .stk
theorem dop_II0 {f : Value → Value → Sem Value} {gV : Int → Int → V} {g : Int → Int → D} (h : OpR X f (rI0 gV)) (hg : ∀ i j F μ H, Rp X.K CA F μ H (g i j) (gV i j)) : DOp X CA W f (opII0 g) := by
  refine ⟨_, h, fun x y vx vy bx F μ σ H Q s rx ry o => ?_⟩
  cases x <;> cases y <;> first | exact o.elim | skip
  rename_i i j
  exact ⟨i, j, rx, ry, okV o s (hg _ _ _ _ _)⟩
abbrev addI := opII0 fun i j => .int (i + j)
abbrev subI := opII0 fun i j => .int (i - j)
abbrev ltI := opII0 fun i j => .bl (decide (i < j))
abbrev leI := opII0 fun i j => .bl (decide (i ≤ j))
abbrev gtI := opII0 fun i j => .bl (decide (j < i))
abbrev geI := opII0 fun i j => .bl (decide (j ≤ i))
instance {i j : Int} : Decidable (CMul i j) := by unfold CMul; exact inferInstance
instance {i j : Int} : Decidable (CPow i j) := by unfold CPow; exact inferInstance
instance {i j : Int} : Decidable (CMulW i j) := by unfold CMulW; exact inferInstance
instance {i j : Int} : Decidable (CDivW i j) := by unfold CDivW; exact inferInstance
abbrev mulI := opII CMul fun i j => .int (i * j)
abbrev mulW := opII CMulW fun i j => .int (i * j)
abbrev divW := opII CDivW fun i j => .int (i / j)
abbrev modI := opII (fun _ j => 0 < j) fun i j => .int (i % j)
abbrev powI := opII CPow fun i j => .int (i ^ j.toNat)
theorem dop_addI : DOp X CA W (binaryOp .Add) addI := dop_II0 op_add fun _ _ _ _ _ => rfl
theorem dop_subI : DOp X CA W (binaryOp .Sub) subI := dop_II0 op_sub fun _ _ _ _ _ => rfl
theorem dop_mulI : DOp X CA W (binaryOp .Mult) mulI := dop_II op_mul fun _ _ _ _ _ => rfl
theorem dop_mulW : DOp X CA W (binaryOp .Mult) mulW := dop_II op_mulW fun _ _ _ _ _ => rfl
theorem dop_divW : DOp X CA W (binaryOp .FloorDiv) divW := dop_II op_fdivW fun _ _ _ _ _ => rfl
theorem dop_modI : DOp X CA W (binaryOp .Mod) modI := dop_II op_mod fun _ _ _ _ _ => rfl
theorem dop_powI : DOp X CA W (binaryOp .Pow) powI := dop_II op_pow fun _ _ _ _ _ => rfl
theorem dop_ltI : DOp X CA W (compareOp .Lt) ltI := dop_II0 op_lt fun _ _ _ _ _ => rfl
theorem dop_leI : DOp X CA W (compareOp .LtE) leI := dop_II0 op_le fun _ _ _ _ _ => rfl
theorem dop_gtI : DOp X CA W (compareOp .Gt) gtI := dop_II0 op_gt fun _ _ _ _ _ => rfl
theorem dop_geI : DOp X CA W (compareOp .GtE) geI := dop_II0 op_ge fun _ _ _ _ _ => rfl
def addL : D → D → List D → Out R := fun x y bx => match x.hL bx, y.hL bx with
  | some xs, some ys => if xs.length + ys.length ≤ sizeLine then .ok (.new (.lst (xs ++ ys))) bx else .stk
  | _, _ => .stk
theorem dop_addL : DOp X CA W (binaryOp .Add) addL := by
  refine ⟨_, op_cat, fun x y vx vy bx F μ σ H Q s rx ry o => ?_⟩
  unfold addL at o
  cases hx : x.hL bx with
  | none => simp only [hx] at o; exact o.elim
  | some xs => cases hy : y.hL bx with
    | none => simp only [hx, hy] at o; exact o.elim
    | some ys =>
      simp only [hx, hy] at o
      obtain ⟨hl, o⟩ := okIf o
      obtain ⟨p, vs, q1, q2, q3⟩ := hL_at s rx hx
      obtain ⟨p', vs', q1', q2', q3'⟩ := hL_at s ry hy
      exact ⟨p, p', vs, vs', q1, q1', q2, q2', by rw [← q3.length, ← q3'.length]; exact hl, okL o s (q3.append q3')⟩
def mulL : D → D → List D → Out R := fun x y bx => match x.hL bx, y with
  | some xs, .int k => if -(2 ^ 63) ≤ k ∧ k < 2 ^ 63 ∧ xs.length * k.toNat ≤ sizeLine then .ok (.new (.lst (List.replicate k.toNat xs).flatten)) bx else .stk
  | _, _ => .stk
def addT : D → D → List D → Out R
  | .tup xs, .tup ys, bx => if xs.length + ys.length ≤ sizeLine then OK (.tup (xs ++ ys)) bx else .stk
  | _, _, _ => .stk
theorem dop_addT : DOp X CA W (binaryOp .Add) addT := by
  refine ⟨_, op_catA, fun x y vx vy bx F μ σ H Q s rx ry o => ?_⟩
  cases x <;> cases y <;> first | exact o.elim | skip
  rename_i xs ys
  obtain ⟨hl, o⟩ := okIf (show OkG X.K CA W F μ σ H (fun F' H' => RRv X.K CA F' μ H H') (if xs.length + ys.length ≤ sizeLine then OK (.tup (xs ++ ys)) bx else .stk) Q from o)
  have rx0 := rx
  have ry0 := ry
  obtain ⟨p, vs, q1, q2, q3⟩ := rx
  obtain ⟨p', vs', q1', q2', q3'⟩ := ry
  subst q1 q1'
  refine ⟨p, p', vs, vs', rfl, rfl, q2.sq, q2'.sq, by rw [← q3.length, ← q3'.length]; exact hl, fun e => ?_, fun _ e => ?_, fun _ _ => okT o s (q3.append q3')⟩
  · subst e
    have : xs = [] := List.length_eq_zero_iff.mp q3.length
    subst this
    exact okV o s ry0
  · subst e
    have : ys = [] := List.length_eq_zero_iff.mp q3'.length
    subst this
    rw [List.append_nil] at o
    exact okV o s rx0
def addS : D → D → List D → Out R
  | .str x, .str y, bx => if x.length + y.length ≤ sizeLine then OK (.str (x ++ y)) bx else .stk
  | _, _, _ => .stk
theorem dop_addS : DOp X CA W (binaryOp .Add) addS := by
  refine ⟨_, op_add_str, fun x y vx vy bx F μ σ H Q s rx ry o => ?_⟩
  cases x <;> cases y <;> first | exact o.elim | skip
  rename_i x y
  obtain ⟨hl, o⟩ := okIf (show OkG X.K CA W F μ σ H (fun F' H' => RRv X.K CA F' μ H H') (if x.length + y.length ≤ sizeLine then OK (.str (x ++ y)) bx else .stk) Q from o)
  exact ⟨x, y, rx, ry, hl, okV o s rfl⟩
def negI : D → List D → Out R
  | .int i, bx => OK (.int (-i)) bx
  | _, _ => .stk
theorem dun_neg : DUn X CA W (unaryOp .USub) negI := by
  refine ⟨_, un_neg, fun x vx bx F μ σ H Q s rx o => ?_⟩
  cases x <;> first | exact o.elim | skip
  exact ⟨_, rx, okV o s rfl⟩
/-! ### is None -/
def D.isNon : D → Bool
  | .non => true
  | _ => false
def isN : D → List D → Out R := fun x bx => OK (.bl x.isNon) bx
def notN : D → List D → Out R := fun x bx => OK (.bl (!x.isNon)) bx
theorem Rp.non_iff {K : PySem.W.Frag} {F : Addr → Prop} {μ : List Addr} {H : Hp} {d : D} {v : V} (r : Rp K CA F μ H d v) : decide (v = .non) = d.isNon := by
  cases d with
  | non => cases r; rfl
  | bl _ => cases r; rfl
  | int _ => cases r; rfl
  | str _ => cases r; rfl
  | adr _ => cases r; rfl
  | ty _ => cases r; rfl
  | box _ => obtain ⟨_, rfl, _⟩ := r; rfl
  | tup _ => obtain ⟨_, _, rfl, _⟩ := r; rfl
  | lst _ => obtain ⟨_, _, rfl, _⟩ := r; rfl
  | rol _ => obtain ⟨_, _, rfl, _⟩ := r; rfl
  | ins _ _ _ => obtain ⟨_, _, _, rfl, _⟩ := r; rfl
  | dk _ _ => obtain ⟨_, _, rfl, _⟩ := r; rfl
  | dt _ _ => obtain ⟨_, _, rfl, _⟩ := r; rfl
theorem isN_ok {j : Nat} {pos' : Pos} {ma : ME} (ha : SE X CA W a ma) : ∃ te, PE X (.Compare a [.Is] [.Constant .none j pos'] pos) te ∧ PT X (.Compare a [.Is] [.Constant .none j pos'] pos) (tB te) ∧
    ∀ ρ bx F μ σ H Q, Sx X.K CA F μ H bx → En X.K CA F μ H ρ σ → OkG X.K CA W F μ σ H (fun F' H' => RRv X.K CA F' μ H H') (mUn isN ma ρ bx) Q → te σ H Q := by
  obtain ⟨ta, a1, a2⟩ := ha.dat
  refine ⟨_, pe_cmp (pc_isN a1) (by rfl), pt_cmp (pc_isN a1) (by rfl), fun ρ bx F μ σ H Q s n o => ?_⟩
  exact un_ok (g := isN) (r := fun x H Q => Q (.bl (decide (x = .non))) H) a2 (fun x vx bx F μ σ H Q s rx o => by rw [rx.non_iff]; exact okV o s rfl) ρ bx F μ σ H Q s n o
theorem notN_ok {j : Nat} {pos' : Pos} {ma : ME} (ha : SE X CA W a ma) : ∃ te, PE X (.Compare a [.IsNot] [.Constant .none j pos'] pos) te ∧ PT X (.Compare a [.IsNot] [.Constant .none j pos'] pos) (tB te) ∧
    ∀ ρ bx F μ σ H Q, Sx X.K CA F μ H bx → En X.K CA F μ H ρ σ → OkG X.K CA W F μ σ H (fun F' H' => RRv X.K CA F' μ H H') (mUn notN ma ρ bx) Q → te σ H Q := by
  obtain ⟨ta, a1, a2⟩ := ha.dat
  refine ⟨_, pe_cmp (pc_notN a1) (by rfl), pt_cmp (pc_notN a1) (by rfl), fun ρ bx F μ σ H Q s n o => ?_⟩
  refine un_ok (g := notN) (r := fun x H Q => Q (.bl (!decide (x = .non))) H) a2 (fun x vx bx F μ σ H Q s rx o => ?_) ρ bx F μ σ H Q s n o
  rw [rx.non_iff]
  exact okV o s rfl
theorem se_isN {j : Nat} {pos' : Pos} {ma : ME} (ha : SE X CA W a ma) : SE X CA W (.Compare a [.Is] [.Constant .none j pos'] pos) (mUn isN ma) := let ⟨te, h1, _, h3⟩ := isN_ok ha; ⟨te, h1, h3⟩
theorem se_notN {j : Nat} {pos' : Pos} {ma : ME} (ha : SE X CA W a ma) : SE X CA W (.Compare a [.IsNot] [.Constant .none j pos'] pos) (mUn notN ma) := let ⟨te, h1, _, h3⟩ := notN_ok ha; ⟨te, h1, h3⟩
theorem st_isN {j : Nat} {pos' : Pos} {ma : ME} (ha : SE X CA W a ma) : ST X CA W (.Compare a [.Is] [.Constant .none j pos'] pos) (mTest (mUn isN ma)) := let ⟨te, _, h2, h3⟩ := isN_ok ha; ⟨_, h2, test_ok h3⟩
theorem st_notN {j : Nat} {pos' : Pos} {ma : ME} (ha : SE X CA W a ma) : ST X CA W (.Compare a [.IsNot] [.Constant .none j pos'] pos) (mTest (mUn notN ma)) := let ⟨te, _, h2, h3⟩ := notN_ok ha; ⟨_, h2, test_ok h3⟩
/-! ### equality of data -/
mutual
def D.toP : D → Option PyData
  | .non => some .none
  | .bl b => some (.bool b)
  | .int i => some (.int i)
  | .str x => some (.str x)
  | .tup ds => match D.toPs ds with
    | some ps => some (.tuple ps)
    | none => none
  | .lst ds => match D.toPs ds with
    | some ps => some (.list ps)
    | none => none
  | .rol ds => match D.toPs ds with
    | some ps => some (.list ps)
    | none => none
  | .ins _ _ _ => none
  | .dk _ _ => none
  | .dt _ _ => none
  | .box _ => none
  | .adr _ => none
  | .ty _ => none
def D.toPs : List D → Option (List PyData)
  | [] => some []
  | d :: ds => match D.toP d, D.toPs ds with
    | some p, some ps => some (p :: ps)
    | _, _ => none
end
def D.toPB (bx : List D) (d : D) : Option PyData := match d with
  | .box n => match bx[n]? with
    | some (.lst ds) => match D.toPs ds with
      | some ps => some (.list ps)
      | none => none
    | _ => none
  | d => d.toP
section
variable {K : PySem.W.Frag} {F : Addr → Prop} {μ : List Addr} {H : Hp} {bx : List D}
mutual
theorem toP_ok : ∀ {d : D} {v : V} {p : PyData}, Rp K CA F μ H d v → d.toP = some p → Dp K H v p
  | .non, _, _, r, e => by cases e; rw [show _ = V.non from r]; exact .non
  | .bl b, _, _, r, e => by cases e; rw [show _ = V.bl b from r]; exact .bl b
  | .int i, _, _, r, e => by cases e; rw [show _ = V.int i from r]; exact .int i
  | .str x, _, _, r, e => by cases e; rw [show _ = V.str x from r]; exact .str x
  | .tup ds, _, _, r, e => by
    obtain ⟨a, vs, q1, q2, q3⟩ := r
    unfold D.toP at e
    cases q : D.toPs ds with
    | none => simp only [q] at e; cases e
    | some ps => simp only [q] at e; cases e; rw [q1]; exact .tup q2.sq (toPs_ok q3 q)
  | .lst ds, _, _, r, e => by
    obtain ⟨a, vs, q1, q2, q3⟩ := r
    unfold D.toP at e
    cases q : D.toPs ds with
    | none => simp only [q] at e; cases e
    | some ps => simp only [q] at e; cases e; rw [q1]; exact .lst q2.sq (toPs_ok q3 q)
  | .rol ds, _, _, r, e => by
    obtain ⟨a, vs, q1, q2, q3⟩ := r
    unfold D.toP at e
    cases q : D.toPs ds with
    | none => simp only [q] at e; cases e
    | some ps => simp only [q] at e; cases e; rw [q1]; exact .lst q2.sq (toPs_ok q3 q)
  | .ins _ _ _, _, _, _, e => by unfold D.toP at e; cases e
  | .dk _ _, _, _, _, e => by unfold D.toP at e; cases e
  | .dt _ _, _, _, _, e => by unfold D.toP at e; cases e
  | .box _, _, _, _, e => by unfold D.toP at e; cases e
  | .adr _, _, _, _, e => by unfold D.toP at e; cases e
  | .ty _, _, _, _, e => by unfold D.toP at e; cases e
theorem toPs_ok : ∀ {ds : List D} {vs : List V} {ps : List PyData}, Rps K CA F μ H ds vs → D.toPs ds = some ps → DpAll K H vs ps
  | [], [], _, _, e => by unfold D.toPs at e; cases e; exact .nil
  | d :: ds, v :: vs, _, r, e => by
    unfold D.toPs at e
    cases q : d.toP with
    | none => simp only [q] at e; cases e
    | some p => cases q2 : D.toPs ds with
      | none => simp only [q, q2] at e; cases e
      | some ps => simp only [q, q2] at e; cases e; exact .cons (toP_ok r.1 q) (toPs_ok r.2 q2)
  | [], _ :: _, _, r, _ => r.elim
  | _ :: _, [], _, r, _ => r.elim
end
theorem toPB_ok {d : D} {v : V} {p : PyData} (s : Sx K CA F μ H bx) (r : Rp K CA F μ H d v) (e : d.toPB bx = some p) : Dp K H v p := by
  unfold D.toPB at e
  cases d with
  | box n =>
    cases hb : bx[n]? with
    | none => simp only [hb] at e; cases e
    | some d' => cases d' with
      | lst ds =>
        simp only [hb] at e
        cases q : D.toPs ds with
        | none => simp only [q] at e; cases e
        | some ps =>
          simp only [q] at e; cases e
          obtain ⟨a, q1, q2⟩ := r
          obtain ⟨vs, w1, w2⟩ := s.at_ n _ a hb q2
          rw [q1]; exact .lst (.inl (.inl w1)) (toPs_ok w2 q)
      | _ => simp only [hb] at e; cases e
  | _ => exact toP_ok r e
end
def eqD : D → D → List D → Out R := fun x y bx => match x.toPB bx, y.toPB bx with
  | some p, some q => if SeqAt.shaped p = true ∧ SeqAt.shaped q = true then OK (.bl (PyData.eqv p q)) bx else .stk
  | _, _ => .stk
def neD : D → D → List D → Out R := fun x y bx => match x.toPB bx, y.toPB bx with
  | some p, some q => if SeqAt.shaped p = true ∧ SeqAt.shaped q = true then OK (.bl (!PyData.eqv p q)) bx else .stk
  | _, _ => .stk
theorem dop_eqD (hu : X.A.units + 64 < cLine) : DOp X CA W (compareOp .Eq) eqD := by
  refine ⟨_, op_eqD hu, fun x y vx vy bx F μ σ H Q s rx ry o => ?_⟩
  unfold eqD at o
  cases hx : x.toPB bx with
  | none => simp only [hx] at o; exact o.elim
  | some p => cases hy : y.toPB bx with
    | none => simp only [hx, hy] at o; exact o.elim
    | some q =>
      simp only [hx, hy] at o
      obtain ⟨hl, o⟩ := okIf o
      exact ⟨p, q, toPB_ok s rx hx, toPB_ok s ry hy, hl.1, hl.2, okV o s rfl⟩
theorem dop_neD (hu : X.A.units + 64 < cLine) : DOp X CA W (compareOp .NotEq) neD := by
  refine ⟨_, op_neD hu, fun x y vx vy bx F μ σ H Q s rx ry o => ?_⟩
  unfold neD at o
  cases hx : x.toPB bx with
  | none => simp only [hx] at o; exact o.elim
  | some p => cases hy : y.toPB bx with
    | none => simp only [hx, hy] at o; exact o.elim
    | some q =>
      simp only [hx, hy] at o
      obtain ⟨hl, o⟩ := okIf o
      exact ⟨p, q, toPB_ok s rx hx, toPB_ok s ry hy, hl.1, hl.2, okV o s rfl⟩
/-! ### items -/
def ixD : D → D → List D → Out R := fun x y bx => match y with
  | .int i => (match x.sL bx with
    | some ds => (match L2.atI ds i with
      | some d => OK d bx
      | none => .stk)
    | none => match x with
      | .tup ds => (match L2.atI ds i with
        | some d => OK d bx
        | none => .stk)
      | .str z => if z.length ≤ sizeLine then (match L2.atI z.cps.toList i with
        | some c => OK (.str ⟨#[c]⟩) bx
        | none => .stk) else .stk
      | _ => .stk)
  | _ => .stk
theorem ix_ok : ∀ x y vx vy bx F μ σ H Q, Sx X.K CA F μ H bx → Rp X.K CA F μ H x vx → Rp X.K CA F μ H y vy → OkG X.K CA W F μ σ H (fun F' H' => RRv X.K CA F' μ H H') (ixD x y bx) Q → rIx X.K vx vy H Q := by
  intro x y vx vy bx F μ σ H Q s rx ry o
  unfold ixD at o
  cases y with
  | int i =>
    simp only at o
    cases hx : x.sL bx with
    | some ds =>
      simp only [hx] at o
      cases hi : L2.atI ds i with
      | none => simp only [hi] at o; exact o.elim
      | some d =>
        simp only [hi] at o
        obtain ⟨p, vs, q1, q2, q3⟩ := sL_at s rx hx
        obtain ⟨v, w1, w2⟩ := q3.atI hi
        exact .inl ⟨p, vs, i, v, q1, ry, q2, w1, okV o s w2⟩
    | none =>
      simp only [hx] at o
      cases x with
      | tup ds =>
        simp only at o
        cases hi : L2.atI ds i with
        | none => simp only [hi] at o; exact o.elim
        | some d =>
          simp only [hi] at o
          obtain ⟨p, vs, q1, q2, q3⟩ := rx
          obtain ⟨v, w1, w2⟩ := q3.atI hi
          exact .inr (.inl ⟨p, vs, i, v, q1, ry, q2.sq, w1, okV o s w2⟩)
      | str z =>
        simp only at o
        obtain ⟨hl, o⟩ := okIf o
        cases hi : L2.atI z.cps.toList i with
        | none => simp only [hi] at o; exact o.elim
        | some c =>
          simp only [hi] at o
          exact .inr (.inr ⟨z, i, c, rx, ry, hl, hi, okV o s rfl⟩)
      | _ => exact o.elim
  | _ => exact o.elim
theorem se_ix {ma mb : ME} (ha : SE X CA W a ma) (hb : SE X CA W b mb) (hs : PlainIx b := by exact fun _ _ => rfl) : SE X CA W (.Subscript a b pos) (mBin ixD ma mb) := by
  obtain ⟨ta, a1, a2⟩ := ha.dat
  obtain ⟨tb, b1, b2⟩ := hb.dat
  exact ⟨_, pe_ix ix_seq a1 b1 hs, bin_ok a2 b2 ix_ok⟩
end
end DL

set_option Elab.async false
set_option linter.all false
set_option maxRecDepth 100000
set_option maxHeartbeats 4000000
/-! DL7: slices, stores, methods of lists, built-in functions. -/
namespace DL
open PySem PySem.Spec L2
section
variable {X : Cx} {CA : Ly} {W : WX} {e a b c : Expr} {es : List Expr} {pos p2 : Pos}
/-! ### slices -/
def cutD (xs : List D) (lo hi : Option Int) : List D := (xs.drop (HT.sIx xs.length 0 lo)).take (HT.sIx xs.length xs.length hi - HT.sIx xs.length 0 lo)
theorem cut_ok {K : PySem.W.Frag} {F : Addr → Prop} {μ : List Addr} {H : Hp} {ds : List D} {vs : List V} {lo hi : Option Int} (r : Rps K CA F μ H ds vs) : Rps K CA F μ H (cutD ds lo hi) (cutV vs lo hi) := by
  unfold cutD cutV
  rw [r.length]
  exact (r.drop _).take _
abbrev MP := Sl → List D → Out (Option Int)
def pNone : MP := fun _ bx => .ok none bx
def pSome (m : ME) : MP := fun ρ bx => (m ρ bx).bind fun r b => match r.d with
  | .int i => .ok (some i) b
  | _ => .stk
variable (X CA W) in
structure SO (e : Option Expr) (m : MP) : Prop where
  ex : ∃ t, PO X e t ∧ ∀ ρ bx F μ σ H Q, Sx X.K CA F μ H bx → En X.K CA F μ H ρ σ → OkG X.K CA W F μ σ H (fun _ _ (x y : Option Int) => y = x) (m ρ bx) Q → t σ H Q
theorem so_none : SO X CA W none pNone := ⟨_, po_none, fun ρ bx F μ σ H Q s n o => o none F H Ext.refl s rfl⟩
theorem so_some {m : ME} (h : SE X CA W e m) : SO X CA W (some e) (pSome m) := by
  obtain ⟨t, t1, t2⟩ := h.dat
  refine ⟨_, po_some t1, fun ρ bx F μ σ H Q s n o => t2 ρ bx F μ σ H _ s n ?_⟩
  have o' : OkG X.K CA W F μ σ H (fun _ _ (x y : Option Int) => y = x) (((m ρ bx).map R.d).bind fun d b => match d with | .int i => .ok (some i) b | _ => .stk) Q := by rw [map_bind]; exact o
  refine o'.seq fun d b v F1 H1 e1 s1 rr o1 => ?_
  cases d with
  | int i => exact ⟨i, rr, o1 (some i) F1 H1 e1 s1 rfl⟩
  | _ => exact o1.elim
def slD (x : D) (lo hi : Option Int) (bx : List D) : Out R := match x.sL bx with
  | some ds => .ok (.new (.lst (cutD ds lo hi))) bx
  | none => match x with
    | .tup ds => OK (.tup (cutD ds lo hi)) bx
    | _ => .stk
def mSlice (m : ME) (l h : MP) : ME := fun ρ bx => (m ρ bx).bind fun r b => (l ρ b).bind fun lo b1 => (h ρ b1).bind fun hi b2 => slD r.d lo hi b2
theorem se_slice {lo hi : Option Expr} {m : ME} {ml mh : MP} (he : SE X CA W e m) (hl : SO X CA W lo ml) (hh : SO X CA W hi mh) : SE X CA W (.Subscript e (.Slice lo hi none p2) pos) (mSlice m ml mh) := by
  obtain ⟨t, t1, t2⟩ := he.dat
  obtain ⟨u, u1, u2⟩ := hl.ex
  obtain ⟨w, w1, w2⟩ := hh.ex
  refine ⟨_, pe_slice (sl_list.or sl_tupA) t1 u1 w1, fun ρ bx F μ σ H Q s n o => t2 ρ bx F μ σ H _ s n ?_⟩
  have o' : OkG X.K CA W F μ σ H (fun F' H' => RRv X.K CA F' μ H H') (((m ρ bx).map R.d).bind fun d b => (ml ρ b).bind fun lo b1 => (mh ρ b1).bind fun hi b2 => slD d lo hi b2) Q := by rw [map_bind]; exact o
  refine o'.seq fun d b v F1 H1 e1 s1 rr o1 => ?_
  refine u2 ρ b F1 μ σ H1 _ s1 (n.ext s e1) ?_
  refine OkG.seq (rel2 := fun F' H' => RRv X.K CA F' μ H1 H') (Q := Q) (OkG.shiftR e1 o1) fun lo b1 lo' F2 H2 e2 s2 el o2 => ?_
  subst el
  refine w2 ρ b1 F2 μ σ H2 _ s2 ((n.ext s e1).ext s1 e2) ?_
  refine OkG.seq (rel2 := fun F' H' => RRv X.K CA F' μ H2 H') (Q := Q) (OkG.shiftR e2 o2) fun hi b2 hi' F3 H3 e3 s3 eh o3 => ?_
  subst eh
  have o4 := OkG.shiftR e3 o3
  have r3 := (rr.ext s1 e2).ext s2 e3
  unfold slD at o4
  cases hx : d.sL b2 with
  | some ds =>
    simp only [hx] at o4
    obtain ⟨p, vs, q1, q2, q3⟩ := sL_at s3 r3 hx
    exact .inl ⟨p, vs, q1, q2, okL o4 s3 (cut_ok q3)⟩
  | none =>
    simp only [hx] at o4
    cases d with
    | tup ds =>
      have r3' := r3
      have o4 : OkG X.K CA W F3 μ σ H3 (fun F' H' => RRv X.K CA F' μ H3 H') (OK (D.tup (cutD ds lo' hi')) b2) Q := o4
      obtain ⟨p, vs, q1, q2, q3⟩ := r3
      refine .inr ⟨p, vs, q1, q2.sq, fun hw => ?_, fun _ => okT o4 s3 (cut_ok q3)⟩
      have : cutD ds lo' hi' = ds := by
        unfold cutD
        rw [q3.length, hw.1, hw.2, List.drop_zero, Nat.sub_zero, ← q3.length, List.take_length]
      rw [this] at o4
      subst q1
      exact okV o4 s3 r3'
    | _ => exact o4.elim
/-! ### o[i] = v, o a box's list -/
def setD (o i v : D) (bx : List D) : Option (List D) := match o, i with
  | .box n, .int k => (match bx[n]? with
    | some (.lst ds) => (match ixN ds.length k with
      | some j => some (bx.set n (.lst (ds.set j v)))
      | none => none)
    | _ => none)
  | _, _ => none
def mSetIx (m mo mi : ME) : MS := fun ρ bx => liftE (m ρ bx) ρ fun v b => liftE (mo ρ b) ρ fun o b1 => liftE (mi ρ b1) ρ fun i b2 => match setD o.d i.d v.d b2 with
  | some b3 => .nx ρ b3
  | none => .stk
theorem OkS.shiftE {K : PySem.W.Frag} {F F1 : Addr → Prop} {μ : List Addr} {H H1 : Hp} {bx : List D} {D : Ends} {o : OutS} (e : Ext F μ H F1 H1) (s : Sx K CA F1 μ H1 bx) (h : OkS K CA W F μ H D o) : OkS K CA W F1 μ H1 D o := OkS.shift e.m s h
theorem ss_setIx {o i : Expr} {sp : Pos} {m mo mi : ME} (h : SE X CA W e m) (ho : SE X CA W o mo) (hi : SE X CA W i mi)
    (ha : ∀ v, assign (.Subscript o i sp) X.env v = (do
      let ov ← holding [v] (eval o X.env)
      let iv ← holding [v, ov] (eval i X.env)
      standAt sp
      holding [v, ov, iv] (setItem ov iv v)
      release [v, ov, iv] []) := by intro _; rfl)
    (hs : swapsWithSole [.Subscript o i sp] e pos.line X.env = pure false := by rfl) (hw : swappedStores [.Subscript o i sp] e X.env = pure none := by rfl)
    (h1 : (assignEach [.Subscript o i sp] X.env).map (·.2) = [assign (.Subscript o i sp) X.env] := by rfl) : SS X CA W (.Assign [.Subscript o i sp] e pos) (mSetIx m mo mi) := by
  obtain ⟨t, t1, t2⟩ := h.dat
  obtain ⟨u, u1, u2⟩ := ho.dat
  obtain ⟨w, w1, w2⟩ := hi.dat
  refine ⟨_, ps_asg t1 (pg_sub u1 w1 set_list ha) hs hw h1, fun ρ bx F μ σ H D s n o => t2 ρ bx F μ σ H _ s n ?_⟩
  have o' : OkS X.K CA W F μ H D (liftE ((m ρ bx).map R.d) ρ fun v b => liftE ((mo ρ b).map R.d) ρ fun o b1 => liftE ((mi ρ b1).map R.d) ρ fun i b2 => match setD o i v b2 with
    | some b3 => .nx ρ b3
    | none => .stk) := by
    rw [liftE_map]
    have e1 : (fun (r : R) b => liftE ((mo ρ b).map R.d) ρ fun o b1 => liftE ((mi ρ b1).map R.d) ρ fun i b2 => match setD o i r.d b2 with
      | some b3 => OutS.nx ρ b3
      | none => .stk) = fun r b => liftE (mo ρ b) ρ fun o b1 => liftE (mi ρ b1) ρ fun i b2 => match setD o.d i.d r.d b2 with
      | some b3 => OutS.nx ρ b3
      | none => .stk := by
      funext r b
      rw [liftE_map]
      congr 1
      funext o b1
      rw [liftE_map]
    rw [e1]
    exact o
  refine OkS.seqE s n o' fun v b vv F1 H1 e1 s1 rv o1 => ?_
  refine u2 ρ b F1 μ σ H1 _ s1 (n.ext s e1) (OkS.seqE s1 (n.ext s e1) (OkS.shiftE e1 s1 o1) fun od b1 ov F2 H2 e2 s2 ro o2 => ?_)
  refine w2 ρ b1 F2 μ σ H2 _ s2 ((n.ext s e1).ext s1 e2) (OkS.seqE s2 ((n.ext s e1).ext s1 e2) (OkS.shiftE e2 s2 o2) fun id b2 iv F3 H3 e3 s3 ri o3 => ?_)
  have o4 := OkS.shiftE e3 s3 o3
  have rv3 := (rv.ext s1 e2).ext s2 e3
  have ro3 := ro.ext s2 e3
  have n3 := ((n.ext s e1).ext s1 e2).ext s2 e3
  cases q : setD od id v b2 with
  | none => rw [q] at o4; exact o4.elim
  | some b3 =>
    rw [q] at o4
    unfold setD at q
    cases od with
    | box k => cases id with
      | int j =>
        simp only at q
        cases hb : b2[k]? with
        | none => simp only [hb] at q; cases q
        | some d' => cases d' with
          | lst ds =>
            simp only [hb] at q
            cases hx : ixN ds.length j with
            | none => simp only [hx] at q; cases q
            | some j' =>
              simp only [hx] at q
              cases q
              obtain ⟨p, q1, q2⟩ := ro3
              obtain ⟨vs, w1, w2⟩ := s3.at_ k _ p hb q2
              have up := okB s3 q2 (w2.set j' rv3)
              exact ⟨p, vs, j, j', q1, ri, w1, by rw [← w2.length]; exact hx, o4 σ F3 μ _ up.1.m up.2 (n3.ext s3 up.1)⟩
          | _ => simp only [hb] at q; cases q
      | _ => cases q
    | _ => cases q
/-! ### methods of built-in types -/
def DMt (X : Cx) (CA : Ly) (W : WX) (id : String) (T : String) (g : D → List D → List D → Out R) : Prop :=
  ∃ r : V → List V → Hp → VK → Prop, MtR X id r ∧ (∀ x vx bx F μ H ds, Sx X.K CA F μ H bx → Rp X.K CA F μ H x vx → (∃ bx', g x ds bx' ≠ .stk) → True) ∧
    ∀ x vx ds vs bx F μ σ H Q, Sx X.K CA F μ H bx → Rp X.K CA F μ H x vx → Rps X.K CA F μ H ds vs → OkG X.K CA W F μ σ H (fun F' H' => RRv X.K CA F' μ H H') (g x ds bx) Q → r vx vs H Q
/-- a list's method: the list is looked for ahead of the arguments -/
def mBm (g : D → List D → List D → Out R) (o : ME) (a : MA) : ME := fun ρ bx => (o ρ bx).bind fun r b => match r.d.sL b with
  | some _ => (a ρ b).bind fun ds b1 => g r.d ds b1
  | none => .stk
def DMl (X : Cx) (CA : Ly) (W : WX) (id : String) (g : D → List D → List D → Out R) : Prop :=
  ∃ r : V → List V → Hp → VK → Prop, MtR X id r ∧ ∀ x vx ds vs bx F μ σ H Q, Sx X.K CA F μ H bx → Rp X.K CA F μ H x vx → Rps X.K CA F μ H ds vs → OkG X.K CA W F μ σ H (fun F' H' => RRv X.K CA F' μ H H') (g x ds bx) Q → r vx vs H Q
theorem bm_ok {to : TE} {ta : TA} {mo : ME} {ma : MA} {g : D → List D → List D → Out R} {r : V → List V → Hp → VK → Prop}
    (ho : ∀ ρ bx F μ σ H Q, Sx X.K CA F μ H bx → En X.K CA F μ H ρ σ → OkG X.K CA W F μ σ H (fun F' H' => Rp X.K CA F' μ H') ((mo ρ bx).map R.d) Q → to σ H Q)
    (ha : ∀ ρ bx F μ σ H Q, Sx X.K CA F μ H bx → En X.K CA F μ H ρ σ → OkG X.K CA W F μ σ H (fun F' H' => Rps X.K CA F' μ H') (ma ρ bx) Q → ta σ H Q)
    (hr : ∀ x vx ds vs bx F μ σ H Q, Sx X.K CA F μ H bx → Rp X.K CA F μ H x vx → Rps X.K CA F μ H ds vs → OkG X.K CA W F μ σ H (fun F' H' => RRv X.K CA F' μ H H') (g x ds bx) Q → r vx vs H Q) :
    ∀ ρ bx F μ σ H Q, Sx X.K CA F μ H bx → En X.K CA F μ H ρ σ → OkG X.K CA W F μ σ H (fun F' H' => RRv X.K CA F' μ H H') (mBm g mo ma ρ bx) Q → tBM X.K "list" r to ta σ H Q := by
  intro ρ bx F μ σ H Q s n o
  refine ho ρ bx F μ σ H _ s n ?_
  have o' : OkG X.K CA W F μ σ H (fun F' H' => RRv X.K CA F' μ H H') (((mo ρ bx).map R.d).bind fun d b => match d.sL b with
    | some _ => (ma ρ b).bind fun ds b1 => g d ds b1
    | none => .stk) Q := by rw [map_bind]; exact o
  refine o'.seq fun d b v F1 H1 e1 s1 rv o1 => ?_
  cases q : d.sL b with
  | none => rw [q] at o1; exact o1.elim
  | some xs =>
    rw [q] at o1
    obtain ⟨p, vs, q1, q2, q3⟩ := sL_at s1 rv q
    refine ⟨by rw [q1]; exact .inl ⟨rfl, vs, q2⟩, ?_⟩
    refine ha ρ b F1 μ σ H1 _ s1 (n.ext s e1) ?_
    refine OkG.seq (rel2 := fun F' H' => RRv X.K CA F' μ H1 H') (Q := Q) (OkG.shiftR e1 o1) fun ds b1 ws F2 H2 e2 s2 rs o2 => ?_
    exact hr d v ds ws b1 F2 μ σ H2 Q s2 (rv.ext s1 e2) rs (OkG.shiftR e2 o2)
theorem se_bm {o : Expr} {name : Str} {id : String} {apos cpos : Pos} {mo : ME} {ma : MA} {g : D → List D → List D → Out R} (pa : PlainAttrs "list") (slot : Slot "list" name id) (hty : typeOf (.builtin id) = pure (.type "method_descriptor")) (hm : DMl X CA W id g) (ho : SE X CA W o mo) (ha : SA X CA W (e :: es) ma)
    (hbase : attributeBase o name X.env (eval o X.env) = eval o X.env := by rfl)
    (hfew : ((backTo cpos (starEach (e :: es) X.env)).all (fun x => !x.1) && (backToKw cpos (keywordEach [] X.env)).all (fun x => x.1.isSome)
      && decide ((e :: es).length + ([] : List Keyword).length + (if ([] : List Keyword).isEmpty then 0 else 1) < 30)) = true := by rfl)
    (hline : (apos.endLine == cpos.line) = true := by rfl) (hs : starEach (e :: es) X.env = (false, eval e X.env) :: starEach es X.env := by rfl) (hplain : (backTo cpos (starEach es X.env)).any (·.1) = false := by rfl) :
    SE X CA W (.Call (.Attribute o name apos) (e :: es) [] cpos) (mBm g mo ma) := by
  obtain ⟨r, r1, r2⟩ := hm
  obtain ⟨t, t1, t2⟩ := ho.dat
  obtain ⟨u, u1, u2⟩ := ha.ex
  exact ⟨_, pe_bm pa slot hty r1 t1 u1 hbase hfew hline hs hplain, bm_ok t2 u2 r2⟩
theorem se_bm0 {o : Expr} {name : Str} {id : String} {apos cpos : Pos} {mo : ME} {g : D → List D → List D → Out R} (pa : PlainAttrs "list") (slot : Slot "list" name id) (hty : typeOf (.builtin id) = pure (.type "method_descriptor")) (hm : DMl X CA W id g) (ho : SE X CA W o mo)
    (hbase : attributeBase o name X.env (eval o X.env) = eval o X.env := by rfl) (hline : (apos.endLine == cpos.line) = true := by rfl) : SE X CA W (.Call (.Attribute o name apos) [] [] cpos) (mBm g mo aNil) := by
  obtain ⟨r, r1, r2⟩ := hm
  obtain ⟨t, t1, t2⟩ := ho.dat
  refine ⟨_, pe_bm0 pa slot hty r1 t1 hbase hline, fun ρ bx F μ σ H Q s n o => ?_⟩
  exact bm_ok t2 (ta := tNil) (ma := aNil) (fun ρ bx F μ σ H Q s n o => o [] F H Ext.refl s trivial) r2 ρ bx F μ σ H Q s n o
def appD : D → List D → List D → Out R := fun o ds bx => match o, ds with
  | .box n, [d] => (match bx[n]? with
    | some (.lst xs) => if xs.length < sizeLine then OK .non (bx.set n (.lst (xs ++ [d]))) else .stk
    | _ => .stk)
  | _, _ => .stk
theorem dml_append : DMl X CA W "list.append" appD := by
  refine ⟨_, mt_append, fun x vx ds vs bx F μ σ H Q s rx rs o => ?_⟩
  unfold appD at o
  cases x with
  | box n =>
    match ds, vs, rs, o with
    | [d], [v], rs, o =>
      simp only at o
      cases hb : bx[n]? with
      | none => simp only [hb] at o; exact o.elim
      | some d' => cases d' with
        | lst xs =>
          simp only [hb] at o
          obtain ⟨hl, o⟩ := okIf o
          obtain ⟨p, q1, q2⟩ := rx
          obtain ⟨ws, w1, w2⟩ := s.at_ n _ p hb q2
          have up := okB s q2 (w2.append (show Rps X.K CA F μ H [d] [v] from ⟨rs.1, trivial⟩))
          exact ⟨p, ws, v, q1, rfl, w1, by rw [← w2.length]; exact hl, o .non F _ up.1 up.2 rfl⟩
        | _ => simp only [hb] at o; exact o.elim
    | [], _, _, o => exact o.elim
    | [_], [], rs, _ => exact rs.elim
    | [_], _ :: _ :: _, rs, _ => exact rs.2.elim
    | _ :: _ :: _, _, _, o => exact o.elim
  | _ => exact o.elim
def popD : D → List D → List D → Out R := fun o ds bx => match o, ds with
  | .box n, [] => (match bx[n]? with
    | some (.lst xs) => (match xs[xs.length - 1]? with
      | some y => OK y (bx.set n (.lst xs.dropLast))
      | none => .stk)
    | _ => .stk)
  | .box n, [.int i] => (match bx[n]? with
    | some (.lst xs) => if -(2 ^ 63) ≤ i ∧ i < 2 ^ 63 then (match seqIndex? i xs.length with
      | some k => (match xs[k]? with
        | some y => OK y (bx.set n (.lst (xs.eraseIdx k)))
        | none => .stk)
      | none => .stk) else .stk
    | _ => .stk)
  | _, _ => .stk
theorem Rps.erase {K : PySem.W.Frag} {F : Addr → Prop} {μ : List Addr} {H : Hp} : ∀ {ds : List D} {vs : List V} (n : Nat), Rps K CA F μ H ds vs → Rps K CA F μ H (ds.eraseIdx n) (vs.eraseIdx n)
  | [], [], _, _ => trivial
  | _ :: _, _ :: _, 0, h => h.2
  | _ :: _, _ :: _, n + 1, h => ⟨h.1, Rps.erase n h.2⟩
  | [], _ :: _, _, h => h.elim
  | _ :: _, [], _, h => h.elim
theorem dml_pop : DMl X CA W "list.pop" popD := by
  refine ⟨_, L2.MtR.or mt_pop mt_popAt, fun x vx ds vs bx F μ σ H Q s rx rs o => ?_⟩
  unfold popD at o
  cases x with
  | box n =>
    match ds, vs, rs, o with
    | [], [], rs, o =>
      simp only at o
      cases hb : bx[n]? with
      | none => simp only [hb] at o; exact o.elim
      | some d' => cases d' with
        | lst xs =>
          simp only [hb] at o
          cases hl : xs[xs.length - 1]? with
          | none => simp only [hl] at o; exact o.elim
          | some y =>
            simp only [hl] at o
            obtain ⟨p, q1, q2⟩ := rx
            obtain ⟨ws, w1, w2⟩ := s.at_ n _ p hb q2
            obtain ⟨v, v1, v2⟩ := w2.get hl
            have up := okB s q2 w2.last
            exact .inl ⟨p, ws, v, q1, rfl, w1, by rw [← w2.length]; exact v1, o v F _ up.1 up.2 (v2.ext s up.1)⟩
        | _ => simp only [hb] at o; exact o.elim
    | [.int i], [v], rs, o =>
      simp only at o
      cases hb : bx[n]? with
      | none => simp only [hb] at o; exact o.elim
      | some d' => cases d' with
        | lst xs =>
          simp only [hb] at o
          obtain ⟨hi, o⟩ := okIf o
          cases hk : seqIndex? i xs.length with
          | none => simp only [hk] at o; exact o.elim
          | some k =>
            simp only [hk] at o
            cases hl : xs[k]? with
            | none => simp only [hl] at o; exact o.elim
            | some y =>
              simp only [hl] at o
              obtain ⟨p, q1, q2⟩ := rx
              obtain ⟨ws, w1, w2⟩ := s.at_ n _ p hb q2
              obtain ⟨v', v1, v2⟩ := w2.get hl
              have up := okB s q2 (w2.erase k)
              exact .inr ⟨p, ws, i, k, v', q1, by rw [show v = .int i from rs.1], w1, hi.1, hi.2, by rw [← w2.length]; exact hk, v1, o v' F _ up.1 up.2 (v2.ext s up.1)⟩
        | _ => simp only [hb] at o; exact o.elim
    | [], _ :: _, rs, _ => exact rs.elim
    | [_], [], rs, _ => exact rs.elim
    | [_], _ :: _ :: _, rs, _ => exact rs.2.elim
    | d :: _ :: _, _, _, o => cases d <;> exact o.elim
    | [.non], [_], _, o | [.bl _], [_], _, o | [.str _], [_], _, o | [.tup _], [_], _, o | [.lst _], [_], _, o | [.rol _], [_], _, o | [.ins _ _ _], [_], _, o | [.dk _ _], [_], _, o | [.dt _ _], [_], _, o | [.box _], [_], _, o | [.adr _], [_], _, o | [.ty _], [_], _, o => exact o.elim
  | _ => exact o.elim
/-! ### built-in functions -/
def DCall (X : Cx) (CA : Ly) (W : WX) (f : Value) (g : List D → List D → Out R) : Prop :=
  ∃ r : List V → Hp → VK → Prop, CallR X f r ∧ ∀ ds vs bx F μ σ H Q, Sx X.K CA F μ H bx → Rps X.K CA F μ H ds vs → OkG X.K CA W F μ σ H (fun F' H' => RRv X.K CA F' μ H H') (g ds bx) Q → r vs H Q
def mCB (g : List D → List D → Out R) (a : MA) : ME := fun ρ bx => (a ρ bx).bind fun ds b => g ds b
theorem cb_ok {ta : TA} {ma : MA} {g : List D → List D → Out R} {r : List V → Hp → VK → Prop}
    (ha : ∀ ρ bx F μ σ H Q, Sx X.K CA F μ H bx → En X.K CA F μ H ρ σ → OkG X.K CA W F μ σ H (fun F' H' => Rps X.K CA F' μ H') (ma ρ bx) Q → ta σ H Q)
    (hr : ∀ ds vs bx F μ σ H Q, Sx X.K CA F μ H bx → Rps X.K CA F μ H ds vs → OkG X.K CA W F μ σ H (fun F' H' => RRv X.K CA F' μ H H') (g ds bx) Q → r vs H Q) :
    ∀ ρ bx F μ σ H Q, Sx X.K CA F μ H bx → En X.K CA F μ H ρ σ → OkG X.K CA W F μ σ H (fun F' H' => RRv X.K CA F' μ H H') (mCB g ma ρ bx) Q → tCB r ta σ H Q := by
  intro ρ bx F μ σ H Q s n o
  refine ha ρ bx F μ σ H _ s n ?_
  refine OkG.seq (rel2 := fun F' H' => RRv X.K CA F' μ H H') (Q := Q) o fun ds b1 ws F2 H2 e2 s2 rs o2 => ?_
  exact hr ds ws b1 F2 μ σ H2 Q s2 rs (OkG.shiftR e2 o2)
theorem se_callB {x : Str} {id : String} {p : Pos} {g : List D → List D → Out R} {ma : MA} (hc : DCall X CA W (.builtin id) g) (hg : Gl X x) (hm : X.mg x = none) (hv : bootBuiltins x = some (.builtin id)) (ha : SA X CA W (e :: es) ma) (hn : x ≠ "__name__" := by decide) (hdb : (x == ("__debug__" : Str)) = false := by decide)
    (he : starEach (e :: es) X.env = (false, eval e X.env) :: starEach es X.env := by rfl) (hpl : (backTo pos (starEach es X.env)).any (·.1) = false := by rfl) : SE X CA W (.Call (.Name x p) (e :: es) [] pos) (mCB g ma) := by
  obtain ⟨r, r1, r2⟩ := hc
  obtain ⟨u, u1, u2⟩ := ha.ex
  exact ⟨_, pe_callB r1 hg hm hv u1 hn hdb he hpl, cb_ok u2 r2⟩
theorem se_callTy {x : Str} {T : String} {p : Pos} {g : List D → List D → Out R} {ma : MA} (hc : DCall X CA W (.type T) g) (hg : Gl X x) (hm : X.mg x = none) (hv : bootBuiltins x = some (.type T)) (ha : SA X CA W (e :: es) ma) (hn : x ≠ "__name__" := by decide) (hdb : (x == ("__debug__" : Str)) = false := by decide)
    (he : starEach (e :: es) X.env = (false, eval e X.env) :: starEach es X.env := by rfl) (hpl : (backTo pos (starEach es X.env)).any (·.1) = false := by rfl) : SE X CA W (.Call (.Name x p) (e :: es) [] pos) (mCB g ma) := by
  obtain ⟨r, r1, r2⟩ := hc
  obtain ⟨u, u1, u2⟩ := ha.ex
  exact ⟨_, pe_callTy r1 hg hm hv u1 hn hdb he hpl, cb_ok u2 r2⟩
end
end DL

set_option Elab.async false
set_option linter.all false
set_option maxRecDepth 100000
set_option maxHeartbeats 4000000
/-! DL8: truth, or/and by truth, chains, built-in functions. -/
namespace GBT
open PySem PyProof.Rows
open PySem.Sem (wp)
theorem meets_bool_tup (l : Addr) (items : Array Value) (hfit : (items.size : Int) < 2 ^ 63) :
    Meets (Builtin.«bool.__new__» ⟨[.type "bool", .ref l], []⟩) (fun _ R s => IsTup s.heap l items ∧ ∀ tk, R (.ok (.ret (.bool (!items.isEmpty)))) { s with toks := tk }) :=
  Meets.of_wp fun prog w A R s hs => by
    obtain ⟨hl, hs⟩ := hs
    obtain ⟨hp, g, d, tk, os⟩ := s
    have f1 := F.conv_sub_bool
    repeat (any_goals (first | assumption | (with_reducible refine PyProof.Rows.truthy_tuple hl hfit ?_) | wp_step))
    all_goals first | exact ⟨_, rfl, hs _⟩ | exact hs _ | skip
theorem call_bool_tup {prog : Program} {w : World} {A : Around} {E : Value → Shared → Prop} {s : Shared} {l : Addr} {items : Array Value} {Q : Value → Shared → Prop} (hfit : (items.size : Int) < 2 ^ 63) (hl : IsTup s.heap l items)
    (h : ∀ tk, Q (.bool (!items.isEmpty)) { s with toks := tk }) : wpAny (model prog w) A (call (.type "bool") [.ref l]) Q E s :=
  call_bool_1 (meets_bool_tup l items hfit) ⟨hl, fun tk => ⟨rfl, h tk⟩⟩
end GBT
namespace DL
open PySem PySem.Spec L2
section
variable {X : Cx} {CA : Ly} {W : WX} {e a b c : Expr} {es : List Expr} {pos p2 : Pos}
/-! ### truth -/
def D.trs (ds : List D) : Bool := !ds.isEmpty
def D.tru (bx : List D) (d : D) : Option Bool := match d with
  | .non => some false
  | .bl b => some b
  | .int i => some (i != 0)
  | .str x => if x.length ≤ sizeLine then some ((x.length : Int) != 0) else none
  | .tup ds => some !ds.isEmpty
  | d => match d.sL bx with
    | some ds => some !ds.isEmpty
    | none => none
theorem Rps.emp {K : PySem.W.Frag} {F : Addr → Prop} {μ : List Addr} {H : Hp} {ds : List D} {vs : List V} (h : Rps K CA F μ H ds vs) : (!ds.isEmpty) = !vs.isEmpty := by
  cases ds <;> cases vs <;> first | rfl | exact h.elim
theorem tru_at {K : PySem.W.Frag} {F : Addr → Prop} {μ : List Addr} {H : Hp} {bx : List D} {d : D} {v : V} {k : Bool} (s : Sx K CA F μ H bx) (r : Rp K CA F μ H d v) (e : d.tru bx = some k) : TruV K v H k := by
  have gen : (match d.sL bx with
    | some ds => some !ds.isEmpty
    | none => none) = some k → TruV K v H k := fun e => by
    cases q : d.sL bx with
    | none => rw [q] at e; cases e
    | some ds =>
      rw [q] at e; cases e
      obtain ⟨a, vs, h1, h2, h3⟩ := sL_at s r q
      subst h1
      exact .inl ⟨vs, h2, h3.emp⟩
  cases d with
  | non => cases e; rw [show v = V.non from r]; rfl
  | bl y => cases e; rw [show v = V.bl k from r]; rfl
  | int i => cases e; rw [show v = V.int i from r]; rfl
  | str x =>
    unfold D.tru at e
    by_cases h : x.length ≤ sizeLine
    · simp only [if_pos h] at e; cases e; rw [show v = V.str x from r]; exact ⟨h, rfl⟩
    · simp only [if_neg h] at e; cases e
  | tup ds =>
    cases e
    obtain ⟨a, vs, h1, h2, h3⟩ := r
    subst h1
    exact .inr (.inl ⟨vs, h2.sq, h3.emp⟩)
  | lst ds => exact gen e
  | rol ds => exact gen e
  | box n => exact gen e
  | ins c ns ds => exact gen e
  | dk ks ds => exact gen e
  | dt ks ds => exact gen e
  | adr a => exact gen e
  | ty n => exact gen e
def truO (bx : List D) (d : D) : Out Bool := match d.tru bx with
  | some k => .ok k bx
  | none => .stk
def mTru (m : ME) : MB := fun ρ bx => (m ρ bx).bind fun r b1 => truO b1 r.d
theorem tru_ok' {K : PySem.W.Frag} {te : TE} {m : ME} (h : ∀ ρ bx F μ σ H Q, Sx K CA F μ H bx → En K CA F μ H ρ σ → OkG K CA W F μ σ H (fun F' H' => Rp K CA F' μ H') ((m ρ bx).map R.d) Q → te σ H Q) :
    ∀ ρ bx F μ σ H Q, Sx K CA F μ H bx → En K CA F μ H ρ σ → OkG K CA W F μ σ H (fun _ _ (b c : Bool) => c = b) (mTru m ρ bx) Q → te σ H (fun x H' => ∃ k, TruV K x H' k ∧ Q k H') := by
  intro ρ bx F μ σ H Q s n o
  refine h ρ bx F μ σ H _ s n ?_
  have o' : OkG K CA W F μ σ H (fun _ _ (b c : Bool) => c = b) (((m ρ bx).map R.d).bind fun d b1 => truO b1 d) Q := by rw [map_bind]; exact o
  refine o'.seq fun d b1 v F1 H1 e1 s1 rv o1 => ?_
  unfold truO at o1
  cases q : d.tru b1 with
  | none => rw [q] at o1; exact o1.elim
  | some k => rw [q] at o1; exact ⟨k, tru_at s1 rv q, o1 k F1 H1 e1 s1 rfl⟩
theorem st_tru {m : ME} (h : SE X CA W e m) (he : ∀ whole, isTrue e X.env whole = (do let v ← whole; standAt e.pos; holding [v] (truthy v)) := by intro _; rfl) : ST X CA W e (mTru m) := by
  obtain ⟨te, h1, h2⟩ := h.dat
  exact ⟨_, pt_truth h1 he, tru_ok' h2⟩
def mOrT (a b : ME) : ME := fun ρ bx => (a ρ bx).bind fun r b1 => (truO b1 r.d).bind fun k b2 => if k then .ok (.val r.d) b2 else b ρ b2
def mAndT (a b : ME) : ME := fun ρ bx => (a ρ bx).bind fun r b1 => (truO b1 r.d).bind fun k b2 => if k then b ρ b2 else .ok (.val r.d) b2
theorem se_orT {ma mb : ME} {rest : List Expr} (ha : SE X CA W a ma) (hb : SE X CA W (.BoolOp .Or (b :: rest) pos) mb) : SE X CA W (.BoolOp .Or (a :: b :: rest) pos) (mOrT ma mb) := by
  obtain ⟨ta, a1, a2⟩ := ha.dat
  obtain ⟨tb, b1, b2⟩ := hb.ex
  refine ⟨_, pe_orT a1 b1, fun ρ bx F μ σ H Q s n o => a2 ρ bx F μ σ H _ s n ?_⟩
  have o' : OkG X.K CA W F μ σ H (fun F' H' => RRv X.K CA F' μ H H') (((ma ρ bx).map R.d).bind fun d b1 => (truO b1 d).bind fun k b2 => if k then .ok (.val d) b2 else mb ρ b2) Q := by rw [map_bind]; exact o
  refine o'.seq fun d b1 v F1 H1 e1 s1 rv o1 => ?_
  unfold truO at o1
  cases q : d.tru b1 with
  | none => rw [q] at o1; exact o1.elim
  | some k =>
    rw [q] at o1
    refine ⟨k, tru_at s1 rv q, ?_⟩
    simp only [Out.bind_ok] at o1
    cases k with
    | true => exact iteT (o1 v F1 H1 e1 s1 rv)
    | false => exact iteF (b2 ρ b1 F1 μ σ H1 Q s1 (n.ext s e1) (OkG.shiftR e1 o1))
theorem se_andT {ma mb : ME} {rest : List Expr} (ha : SE X CA W a ma) (hb : SE X CA W (.BoolOp .And (b :: rest) pos) mb) : SE X CA W (.BoolOp .And (a :: b :: rest) pos) (mAndT ma mb) := by
  obtain ⟨ta, a1, a2⟩ := ha.dat
  obtain ⟨tb, b1, b2⟩ := hb.ex
  refine ⟨_, pe_andT a1 b1, fun ρ bx F μ σ H Q s n o => a2 ρ bx F μ σ H _ s n ?_⟩
  have o' : OkG X.K CA W F μ σ H (fun F' H' => RRv X.K CA F' μ H H') (((ma ρ bx).map R.d).bind fun d b1 => (truO b1 d).bind fun k b2 => if k then mb ρ b2 else .ok (.val d) b2) Q := by rw [map_bind]; exact o
  refine o'.seq fun d b1 v F1 H1 e1 s1 rv o1 => ?_
  unfold truO at o1
  cases q : d.tru b1 with
  | none => rw [q] at o1; exact o1.elim
  | some k =>
    rw [q] at o1
    refine ⟨k, tru_at s1 rv q, ?_⟩
    simp only [Out.bind_ok] at o1
    cases k with
    | false => exact iteF (o1 v F1 H1 e1 s1 rv)
    | true => exact iteT (b2 ρ b1 F1 μ σ H1 Q s1 (n.ext s e1) (OkG.shiftR e1 o1))
def mNotT (a : ME) : ME := fun ρ bx => (mTru a ρ bx).bind fun k b1 => .ok (.val (.bl (!k))) b1
theorem se_notT {ma : ME} (ha : SE X CA W a ma) : SE X CA W (.UnaryOp .Not a pos) (mNotT ma) := by
  obtain ⟨ta, a1, a2⟩ := ha.dat
  refine ⟨_, pe_notT a1, fun ρ bx F μ σ H Q s n o => ?_⟩
  refine tru_ok' a2 ρ bx F μ σ H (fun k H1 => Q (.bl (!k)) H1) s n ?_
  refine OkG.seq (rel2 := fun F' H' => RRv X.K CA F' μ H H') (Q := Q) o fun x b1 c F1 H1 e1 s1 ec o1 => ?_
  subst ec
  exact o1 (.bl (!c)) F1 H1 e1 s1 rfl
/-! ### a op b op c -/
def mChain (g g' : D → D → List D → Out R) (a b c : ME) : ME := fun ρ bx => (a ρ bx).bind fun x b1 => (b ρ b1).bind fun y b2 => (g x.d y.d b2).bind fun z b3 => match z with
  | .val (.bl k) => if k then (c ρ b3).bind fun w b4 => g' y.d w.d b4 else .ok (.val (.bl false)) b3
  | _ => .stk
theorem chain_ok {op op' : CmpOp} {g g' : D → D → List D → Out R} {ma mb mc : ME} (ho : DOp X CA W (compareOp op) g) (ho' : DOp X CA W (compareOp op') g') (ha : SE X CA W a ma) (hb : SE X CA W b mb) (hc : SE X CA W c mc) :
    ∃ r r' ta tb tc, OpR X (compareOp op) r ∧ OpR X (compareOp op') r' ∧ PE X a ta ∧ PE X b tb ∧ PE X c tc ∧ ∀ ρ bx F μ σ H Q, Sx X.K CA F μ H bx → En X.K CA F μ H ρ σ → OkG X.K CA W F μ σ H (fun F' H' => RRv X.K CA F' μ H H') (mChain g g' ma mb mc ρ bx) Q → tChain r r' ta tb tc σ H Q := by
  obtain ⟨r, h1, h2⟩ := ho
  obtain ⟨r', h1', h2'⟩ := ho'
  obtain ⟨ta, a1, a2⟩ := ha.dat
  obtain ⟨tb, b1, b2⟩ := hb.dat
  obtain ⟨tc, c1, c2⟩ := hc.dat
  refine ⟨r, r', ta, tb, tc, h1, h1', a1, b1, c1, fun ρ bx F μ σ H Q s n o => a2 ρ bx F μ σ H _ s n ?_⟩
  have o' : OkG X.K CA W F μ σ H (fun F' H' => RRv X.K CA F' μ H H') (((ma ρ bx).map R.d).bind fun x b1 => (mb ρ b1).bind fun y b2 => (g x y.d b2).bind fun z b3 => match z with
    | .val (.bl k) => if k then (mc ρ b3).bind fun w b4 => g' y.d w.d b4 else .ok (.val (.bl false)) b3
    | _ => .stk) Q := by rw [map_bind]; exact o
  refine o'.seq fun x b1 vx F1 H1 e1 s1 rx o1 => ?_
  refine b2 ρ b1 F1 μ σ H1 _ s1 (n.ext s e1) ?_
  have o2 : OkG X.K CA W F1 μ σ H1 (fun F' H' => RRv X.K CA F' μ H1 H') (((mb ρ b1).map R.d).bind fun y b2 => (g x y b2).bind fun z b3 => match z with
    | .val (.bl k) => if k then (mc ρ b3).bind fun w b4 => g' y w.d b4 else .ok (.val (.bl false)) b3
    | _ => .stk) Q := by rw [map_bind]; exact o1.shiftR e1
  refine o2.seq fun y b2 vy F2 H2 e2 s2 ry o3 => ?_
  have n2 := (n.ext s e1).ext s1 e2
  refine h2 x y vx vy b2 F2 μ σ H2 _ s2 (rx.ext s1 e2) ry ?_
  refine OkG.seq (rel2 := fun F' H' => RRv X.K CA F' μ H2 H') (Q := Q) (o3.shiftR e2) fun z b3 vz F3 H3 e3 s3 rz o4 => ?_
  cases z with
  | new d => exact o4.elim
  | val d => cases d with
    | bl k =>
      refine ⟨k, rz, ?_⟩
      cases k with
      | false => exact iteF (o4 (.bl false) F3 H3 e3 s3 rfl)
      | true =>
        refine iteT (c2 ρ b3 F3 μ σ H3 _ s3 (n2.ext s2 e3) ?_)
        have o5 : OkG X.K CA W F3 μ σ H3 (fun F' H' => RRv X.K CA F' μ H3 H') (((mc ρ b3).map R.d).bind fun w b4 => g' y w b4) Q := by rw [map_bind]; exact (OkG.shiftR e3 o4)
        refine o5.seq fun w b4 vw F4 H4 e4 s4 rw' o6 => ?_
        exact h2' y w vy vw b4 F4 μ σ H4 Q s4 ((ry.ext s2 e3).ext s3 e4) rw' (o6.shiftR e4)
    | _ => exact o4.elim
theorem se_chain {op op' : CmpOp} {g g' : D → D → List D → Out R} {ma mb mc : ME} (ho : DOp X CA W (compareOp op) g) (ho' : DOp X CA W (compareOp op') g') (ha : SE X CA W a ma) (hb : SE X CA W b mb) (hc : SE X CA W c mc)
    (hm : lastMarks [op, op'] [b, c] = false := by with_unfolding_all rfl) : SE X CA W (.Compare a [op, op'] [b, c] pos) (mChain g g' ma mb mc) := by
  obtain ⟨r, r', ta, tb, tc, h1, h2, h3, h4, h5, h6⟩ := chain_ok ho ho' ha hb hc
  exact ⟨_, pe_chain h1 h2 h3 h4 h5 hm, h6⟩
theorem st_chain {op op' : CmpOp} {g g' : D → D → List D → Out R} {ma mb mc : ME} (ho : DOp X CA W (compareOp op) g) (ho' : DOp X CA W (compareOp op') g') (ha : SE X CA W a ma) (hb : SE X CA W b mb) (hc : SE X CA W c mc)
    (hm : lastMarks [op, op'] [b, c] = false := by with_unfolding_all rfl) : ST X CA W (.Compare a [op, op'] [b, c] pos) (mTest (mChain g g' ma mb mc)) := by
  obtain ⟨r, r', ta, tb, tc, h1, h2, h3, h4, h5, h6⟩ := chain_ok ho ho' ha hb hc
  exact ⟨_, pt_chain h1 h2 h3 h4 h5 hm, test_ok h6⟩
/-! ### built-in functions -/
theorem DCall.or {f : Value} {g g' : List D → List D → Out R} (h : DCall X CA W f g) (h' : DCall X CA W f g') : DCall X CA W f (fun ds bx => match g ds bx with | .stk => g' ds bx | o => o) := by
  obtain ⟨r, h1, h2⟩ := h
  obtain ⟨r', h1', h2'⟩ := h'
  refine ⟨_, h1.or h1', fun ds vs bx F μ σ H Q s rs o => ?_⟩
  cases q : g ds bx with
  | ok a b => simp only [q] at o; exact .inl (h2 ds vs bx F μ σ H Q s rs (by rw [q]; exact o))
  | exn c ns es b => simp only [q] at o; exact .inl (h2 ds vs bx F μ σ H Q s rs (by rw [q]; exact o))
  | stk => simp only [q] at o; exact .inr (h2' ds vs bx F μ σ H Q s rs o)
/-- one argument -/
def un1 (g : D → List D → Out R) : List D → List D → Out R
  | [d], bx => g d bx
  | _, _ => .stk
def un2 (g : D → D → List D → Out R) : List D → List D → Out R
  | [d, d'], bx => g d d' bx
  | _, _ => .stk
theorem dc1 {f : Value} {g : D → List D → Out R} {r : List V → Hp → VK → Prop} (h : CallR X f r)
    (hr : ∀ d v bx F μ σ H Q, Sx X.K CA F μ H bx → Rp X.K CA F μ H d v → OkG X.K CA W F μ σ H (fun F' H' => RRv X.K CA F' μ H H') (g d bx) Q → r [v] H Q) : DCall X CA W f (un1 g) := by
  refine ⟨r, h, fun ds vs bx F μ σ H Q s rs o => ?_⟩
  match ds, vs, rs, o with
  | [d], [v], rs, o => exact hr d v bx F μ σ H Q s rs.1 o
  | [], _, _, o => exact o.elim
  | _ :: _ :: _, _, _, o => exact o.elim
  | [_], [], rs, _ => exact rs.elim
  | [_], _ :: _ :: _, rs, _ => exact rs.2.elim
theorem dc2 {f : Value} {g : D → D → List D → Out R} {r : List V → Hp → VK → Prop} (h : CallR X f r)
    (hr : ∀ d v d' v' bx F μ σ H Q, Sx X.K CA F μ H bx → Rp X.K CA F μ H d v → Rp X.K CA F μ H d' v' → OkG X.K CA W F μ σ H (fun F' H' => RRv X.K CA F' μ H H') (g d d' bx) Q → r [v, v'] H Q) : DCall X CA W f (un2 g) := by
  refine ⟨r, h, fun ds vs bx F μ σ H Q s rs o => ?_⟩
  match ds, vs, rs, o with
  | [d, d'], [v, v'], rs, o => exact hr d v d' v' bx F μ σ H Q s rs.1 rs.2.1 o
  | [], _, _, o => exact o.elim
  | [_], _, _, o => exact o.elim
  | _ :: _ :: _ :: _, _, _, o => exact o.elim
  | [_, _], [], rs, _ => exact rs.elim
  | [_, _], [_], rs, _ => exact rs.2.elim
  | [_, _], _ :: _ :: _ :: _, rs, _ => exact rs.2.2.elim
def lenD : D → List D → Out R := fun d bx => match d.sq bx with
  | some ds => OK (.int ds.length) bx
  | none => .stk
theorem dc_len : DCall X CA W (.builtin "len") (un1 lenD) := dc1 call_len_seq fun d v bx F μ σ H Q s r o => by
  unfold lenD at o
  cases q : d.sq bx with
  | none => rw [q] at o; exact o.elim
  | some ds =>
    rw [q] at o
    obtain ⟨a, vs, h1, h2, h3⟩ := sq_at s r q
    exact ⟨a, vs, by rw [h1], h2, okV o s (by rw [h3.length]; rfl)⟩
def lenS : D → List D → Out R
  | .str x, bx => if x.length ≤ sizeLine then OK (.int x.length) bx else .stk
  | _, _ => .stk
theorem dc_lenS : DCall X CA W (.builtin "len") (un1 lenS) := dc1 call_len_str fun d v bx F μ σ H Q s r o => by
  cases d <;> first | exact o.elim | skip
  rename_i x
  obtain ⟨hl, o⟩ := okIf (show OkG X.K CA W F μ σ H (fun F' H' => RRv X.K CA F' μ H H') (if x.length ≤ sizeLine then OK (.int x.length) bx else .stk) Q from o)
  exact ⟨x, by rw [show v = V.str x from r], hl, okV o s rfl⟩
def absD : D → List D → Out R
  | .int i, bx => OK (.int (if i < 0 then -i else i)) bx
  | _, _ => .stk
theorem dc_abs : DCall X CA W (.builtin "abs") (un1 absD) := dc1 call_abs fun d v bx F μ σ H Q s r o => by
  cases d <;> first | exact o.elim | skip
  rename_i i
  exact ⟨i, by rw [show v = V.int i from r], okV o s rfl⟩
def intD : D → List D → Out R
  | .int i, bx => OK (.int i) bx
  | .bl k, bx => OK (.int (if k then 1 else 0)) bx
  | _, _ => .stk
theorem dc_int : DCall X CA W (.type "int") (un1 intD) := dc1 call_int1 fun d v bx F μ σ H Q s r o => by
  cases d <;> first | exact o.elim | skip
  · rename_i k
    exact .inr ⟨k, by rw [show v = V.bl k from r], okV o s rfl⟩
  · rename_i i
    exact .inl ⟨i, by rw [show v = V.int i from r], okV o s rfl⟩
theorem call_boolT : CallR X (.type "bool") (fun xs H Q => ∃ (a : Addr) (zs : List V), xs = [.ref a] ∧ SqT X.K H a zs ∧ Q (.bl (!zs.isEmpty)) H) := by
  intro pins s σ H xs us Q I r h
  obtain ⟨a, zs, rfl, hq, q⟩ := h
  obtain rfl := Vals.ref1 r
  obtain ⟨its, rv, pl, hz⟩ := I.tuple hq
  have hl := line63
  have hlen := rv.length
  refine GBT.call_bool_tup (by simp only [List.size_toArray]; omega) pl fun tk => ?_
  exact ⟨.bl (!zs.isEmpty), H, I.tok _, by rw [isEmpty_of rv]; rfl, q⟩
def boolD : D → List D → Out R
  | .int i, bx => OK (.bl (i != 0)) bx
  | .bl k, bx => OK (.bl k) bx
  | .tup ds, bx => OK (.bl (!ds.isEmpty)) bx
  | d, bx => match d.sL bx with
    | some ds => OK (.bl (!ds.isEmpty)) bx
    | none => .stk
theorem dc_bool : DCall X CA W (.type "bool") (un1 boolD) := dc1 ((call_bool1.or call_boolT).or call_boolL) fun d v bx F μ σ H Q s r o => by
  have gen : OkG X.K CA W F μ σ H (fun F' H' => RRv X.K CA F' μ H H') (match d.sL bx with
    | some ds => OK (.bl (!ds.isEmpty)) bx
    | none => .stk) Q → ∃ (a : Addr) (zs : List V), [v] = [V.ref a] ∧ SqL X.K H a zs ∧ Q (.bl (!zs.isEmpty)) H := fun o => by
    cases q : d.sL bx with
    | none => rw [q] at o; exact o.elim
    | some ds =>
      rw [q] at o
      obtain ⟨a, vs, h1, h2, h3⟩ := sL_at s r q
      exact ⟨a, vs, by rw [h1], h2, okV o s (by rw [h3.emp]; rfl)⟩
  cases d with
  | int i => exact .inl (.inl (.inl ⟨i, by rw [show v = V.int i from r], okV o s rfl⟩))
  | bl k => exact .inl (.inl (.inr ⟨k, by rw [show v = V.bl k from r], okV o s rfl⟩))
  | tup ds =>
    have o' : OkG X.K CA W F μ σ H (fun F' H' => RRv X.K CA F' μ H H') (OK (.bl (!ds.isEmpty)) bx) Q := o
    obtain ⟨a, vs, h1, h2, h3⟩ := r
    exact .inl (.inr ⟨a, vs, by rw [h1], h2.sq, okV o' s (by rw [h3.emp]; rfl)⟩)
  | _ => exact .inr (gen o)
def listD : D → List D → Out R := fun d bx => match d.sq bx with
  | some ds => .ok (.new (.lst ds)) bx
  | none => .stk
theorem dc_list : DCall X CA W (.type "list") (un1 listD) := dc1 call_list_of fun d v bx F μ σ H Q s r o => by
  unfold listD at o
  cases q : d.sq bx with
  | none => rw [q] at o; exact o.elim
  | some ds =>
    rw [q] at o
    obtain ⟨a, vs, h1, h2, h3⟩ := sq_at s r q
    exact ⟨a, vs, by rw [h1], h2, okL o s h3⟩
def tupD : D → List D → Out R := fun d bx => match d with
  | .tup ds => OK (.tup ds) bx
  | d => match d.sL bx with
    | some ds => OK (.tup ds) bx
    | none => .stk
theorem dc_tuple : DCall X CA W (.type "tuple") (un1 tupD) := dc1 call_tuple_of fun d v bx F μ σ H Q s r o => by
  have gen : OkG X.K CA W F μ σ H (fun F' H' => RRv X.K CA F' μ H H') (match d.sL bx with
    | some ds => OK (.tup ds) bx
    | none => .stk) Q → ∃ (p : Addr) (ys : List V), [v] = [.ref p] ∧ ((SqL X.K H p ys ∧ ∀ l, H l = none → Q (.ref l) (upd H l (.tup ys))) ∨ (SqT X.K H p ys ∧ Q (.ref p) H)) := fun o => by
    cases q : d.sL bx with
    | none => rw [q] at o; exact o.elim
    | some ds =>
      rw [q] at o
      obtain ⟨a, vs, h1, h2, h3⟩ := sL_at s r q
      exact ⟨a, vs, by rw [h1], .inl ⟨h2, okT o s h3⟩⟩
  cases d with
  | tup ds =>
    have o' : OkG X.K CA W F μ σ H (fun F' H' => RRv X.K CA F' μ H H') (OK (.tup ds) bx) Q := o
    have r' := r
    obtain ⟨a, vs, h1, h2, h3⟩ := r
    subst h1
    exact ⟨a, vs, rfl, .inr ⟨h2.sq, okV o' s r'⟩⟩
  | _ => exact gen o
/-- a list of bools, of ints -/
def D.bls : List D → Option (List Bool)
  | [] => some []
  | .bl b :: ds => (D.bls ds).map (b :: ·)
  | _ :: _ => none
def D.ints : List D → Option (List Int)
  | [] => some []
  | .int b :: ds => (D.ints ds).map (b :: ·)
  | _ :: _ => none
theorem bls_at {K : PySem.W.Frag} {F : Addr → Prop} {μ : List Addr} {H : Hp} : ∀ {ds : List D} {vs : List V} {bs : List Bool}, Rps K CA F μ H ds vs → D.bls ds = some bs → vs = bs.map V.bl
  | [], [], _, _, e => by cases e; rfl
  | [], _ :: _, _, r, _ => r.elim
  | _ :: _, [], _, r, _ => r.elim
  | d :: ds, v :: vs, bs, r, e => by
    cases d with
    | bl b =>
      unfold D.bls at e
      cases q : D.bls ds with
      | none => rw [q] at e; cases e
      | some cs => rw [q] at e; cases e; rw [List.map_cons, ← bls_at r.2 q, show v = V.bl b from r.1]
    | _ => cases e
theorem ints_at {K : PySem.W.Frag} {F : Addr → Prop} {μ : List Addr} {H : Hp} : ∀ {ds : List D} {vs : List V} {bs : List Int}, Rps K CA F μ H ds vs → D.ints ds = some bs → vs = bs.map V.int
  | [], [], _, _, e => by cases e; rfl
  | [], _ :: _, _, r, _ => r.elim
  | _ :: _, [], _, r, _ => r.elim
  | d :: ds, v :: vs, bs, r, e => by
    cases d with
    | int b =>
      unfold D.ints at e
      cases q : D.ints ds with
      | none => rw [q] at e; cases e
      | some cs => rw [q] at e; cases e; rw [List.map_cons, ← ints_at r.2 q, show v = V.int b from r.1]
    | _ => cases e
def anyD : D → List D → Out R := fun d bx => match d.sL bx with
  | some ds => (match D.bls ds with
    | some bs => OK (.bl (bs.any id)) bx
    | none => .stk)
  | none => .stk
theorem dc_any (hc : X.calm = true) : DCall X CA W (.builtin "any") (un1 anyD) := dc1 (cr_any hc) fun d v bx F μ σ H Q s r o => by
  unfold anyD at o
  cases q : d.sL bx with
  | none => rw [q] at o; exact o.elim
  | some ds =>
    simp only [q] at o
    cases q2 : D.bls ds with
    | none => rw [q2] at o; exact o.elim
    | some bs =>
      rw [q2] at o
      obtain ⟨a, vs, h1, h2, h3⟩ := sL_at s r q
      exact ⟨a, bs, by rw [h1], by rw [← bls_at h3 q2]; exact h2, okV o s rfl⟩
def allD : D → List D → Out R := fun d bx => match d.sL bx with
  | some ds => (match D.bls ds with
    | some bs => OK (.bl (bs.all id)) bx
    | none => .stk)
  | none => .stk
theorem dc_all (hc : X.calm = true) : DCall X CA W (.builtin "all") (un1 allD) := dc1 (cr_all hc) fun d v bx F μ σ H Q s r o => by
  unfold allD at o
  cases q : d.sL bx with
  | none => rw [q] at o; exact o.elim
  | some ds =>
    simp only [q] at o
    cases q2 : D.bls ds with
    | none => rw [q2] at o; exact o.elim
    | some bs =>
      rw [q2] at o
      obtain ⟨a, vs, h1, h2, h3⟩ := sL_at s r q
      exact ⟨a, bs, by rw [h1], by rw [← bls_at h3 q2]; exact h2, okV o s rfl⟩
def maxL : D → List D → Out R := fun d bx => match d.sL bx with
  | some ds => (match (D.ints ds).bind List.max? with
    | some m => OK (.int m) bx
    | none => .stk)
  | none => .stk
def minL : D → List D → Out R := fun d bx => match d.sL bx with
  | some ds => (match (D.ints ds).bind List.min? with
    | some m => OK (.int m) bx
    | none => .stk)
  | none => .stk
theorem dc_maxL (hc : X.calm = true) : DCall X CA W (.builtin "max") (un1 maxL) := dc1 (cr_max hc) fun d v bx F μ σ H Q s r o => by
  unfold maxL at o
  cases q : d.sL bx with
  | none => rw [q] at o; exact o.elim
  | some ds =>
    simp only [q] at o
    cases q2 : D.ints ds with
    | none => rw [q2] at o; exact o.elim
    | some bs =>
      simp only [q2, Option.bind_some] at o
      cases q3 : bs.max? with
      | none => rw [q3] at o; exact o.elim
      | some m =>
        rw [q3] at o
        obtain ⟨a, vs, h1, h2, h3⟩ := sL_at s r q
        obtain ⟨m1, m2⟩ := List.max?_eq_some_iff.mp q3
        refine ⟨a, bs, by rw [h1], by rw [← ints_at h3 q2]; exact h2, List.length_pos_of_mem m1, fun m' a1 a2 => ?_⟩
        have : m' = m := Int.le_antisymm (m2 m' a1) (a2 m m1)
        subst this
        exact okV o s rfl
theorem dc_minL (hc : X.calm = true) : DCall X CA W (.builtin "min") (un1 minL) := dc1 (cr_min hc) fun d v bx F μ σ H Q s r o => by
  unfold minL at o
  cases q : d.sL bx with
  | none => rw [q] at o; exact o.elim
  | some ds =>
    simp only [q] at o
    cases q2 : D.ints ds with
    | none => rw [q2] at o; exact o.elim
    | some bs =>
      simp only [q2, Option.bind_some] at o
      cases q3 : bs.min? with
      | none => rw [q3] at o; exact o.elim
      | some m =>
        rw [q3] at o
        obtain ⟨a, vs, h1, h2, h3⟩ := sL_at s r q
        obtain ⟨m1, m2⟩ := List.min?_eq_some_iff.mp q3
        refine ⟨a, bs, by rw [h1], by rw [← ints_at h3 q2]; exact h2, List.length_pos_of_mem m1, fun m' a1 a2 => ?_⟩
        have : m' = m := Int.le_antisymm (a2 m m1) (m2 m' a1)
        subst this
        exact okV o s rfl
def max2 : D → D → List D → Out R
  | .int i, .int j, bx => OK (.int (if j > i then j else i)) bx
  | _, _, _ => .stk
def min2 : D → D → List D → Out R
  | .int i, .int j, bx => OK (.int (if j < i then j else i)) bx
  | _, _, _ => .stk
theorem dc_max2 (hc : X.calm = true) : DCall X CA W (.builtin "max") (un2 max2) := dc2 (call_max2 hc) fun d v d' v' bx F μ σ H Q s r r' o => by
  cases d <;> cases d' <;> first | exact o.elim | skip
  rename_i i j
  exact ⟨i, j, by rw [show v = V.int i from r, show v' = V.int j from r'], okV o s rfl⟩
theorem dc_min2 (hc : X.calm = true) : DCall X CA W (.builtin "min") (un2 min2) := dc2 (call_min2 hc) fun d v d' v' bx F μ σ H Q s r r' o => by
  cases d <;> cases d' <;> first | exact o.elim | skip
  rename_i i j
  exact ⟨i, j, by rw [show v = V.int i from r, show v' = V.int j from r'], okV o s rfl⟩
def sumL : D → List D → Out R := fun d bx => match d.sL bx with
  | some ds => (match D.ints ds with
    | some bs => OK (.int bs.sum) bx
    | none => .stk)
  | none => .stk
theorem dc_sum (hc : X.calm = true) : DCall X CA W (.builtin "sum") (un1 sumL) := dc1 (cr_sum hc) fun d v bx F μ σ H Q s r o => by
  unfold sumL at o
  cases q : d.sL bx with
  | none => rw [q] at o; exact o.elim
  | some ds =>
    simp only [q] at o
    cases q2 : D.ints ds with
    | none => rw [q2] at o; exact o.elim
    | some bs =>
      rw [q2] at o
      obtain ⟨a, vs, h1, h2, h3⟩ := sL_at s r q
      exact ⟨a, bs, by rw [h1], by rw [← ints_at h3 q2]; exact h2, okV o s rfl⟩
end
end DL

set_option Elab.async false
set_option linter.all false
set_option maxRecDepth 100000
set_option maxHeartbeats 4000000
/-! DL9: what can be called: defs, classes, methods; fields. -/
namespace DL
open PySem PySem.Spec L2
/-! ### promises of any number of arguments -/
def spR (K : PySem.W.Frag) (CA : Ly) (mf : MF) : Sp := fun vs H Q E => ∃ ds bx F μ, Rps K CA F μ H ds vs ∧ Sx K CA F μ H bx ∧ OkG K CA (fun cls d _ H => E cls d H) F μ [] H (fun F' H' => RRv K CA F' μ H H') (mf ds bx) Q
theorem spM_eq {K : PySem.W.Frag} {CA : Ly} {n : Nat} {mf : MF} : spM K CA n mf = spR K CA (ar n mf) := rfl
section
variable {P : Program} {w : World} {K : PySem.W.Frag} {mg : Str → Option Value} {base : Heap} {CA : Ly} {k : Nat} {f : Addr}
/-- a def that takes as many as it has -/
theorem fn_all {fd : FuncData} {ps : List Str} {mf : MF} {n : Nat} (F : FnOk P w K mg base (L2.CX P w) k f fd ps (spM K CA n mf)) (hb : Binds K fd ps []) : FnR P w K mg base (L2.CX P w) k f (spR K CA (ar n mf)) :=
  (F.raw hb .nil).imp fun vs H Q E h => by rw [List.append_nil]; exact h
/-- .. the last ones by their defaults -/
def dfl (n : Nat) (ds0 : List D) (mf : MF) : MF := fun ds bx => ar n mf (ds ++ ds0) bx
theorem fn_dfl {fd : FuncData} {ps : List Str} {mf : MF} {n : Nat} {ds0 : List D} {vs0 : List V} {us0 : List Value} (F : FnOk P w K mg base (L2.CX P w) k f fd ps (spM K CA n mf)) (hb : Binds K fd ps us0) (hv : Vals vs0 us0)
    (hd : ∀ F μ H, Rps K CA F μ H ds0 vs0) : FnR P w K mg base (L2.CX P w) k f (spR K CA (dfl n ds0 mf)) :=
  (F.raw hb hv).imp fun vs H Q E ⟨ds, bx, F, μ, r, s, o⟩ => ⟨ds ++ ds0, bx, F, μ, r.append (hd F μ H), s, o⟩
/-- the rest as a tuple -/
def starA (n : Nat) (mf : MF) : MF := fun ds bx => if n ≤ ds.length ∧ ds.length - n ≤ sizeLine then mf (ds.take n ++ [.tup (ds.drop n)]) bx else .stk
theorem fn_starR {n : Nat} {mf : MF} (F : FnR P w K mg base (L2.CX P w) k f (fun vs H Q E => ∃ ws rest, vs = ws ++ rest ∧ ws.length = n ∧ rest.length ≤ sizeLine ∧ ∀ p, H p = none → spM K CA (n + 1) mf (ws ++ [V.ref p]) (upd H p (.tup rest)) Q E)) :
    FnR P w K mg base (L2.CX P w) k f (spR K CA (starA n mf)) := by
  refine F.imp fun vs H Q E ⟨ds, bx, F, μ, r, s, o⟩ => ?_
  unfold starA at o
  by_cases h : n ≤ ds.length ∧ ds.length - n ≤ sizeLine
  · rw [if_pos h] at o
    have hl := r.length
    refine ⟨vs.take n, vs.drop n, (List.take_append_drop n vs).symm, by rw [List.length_take]; omega, by rw [List.length_drop]; omega, fun p hp => ?_⟩
    have e2 := Ext.new (o := .tup (vs.drop n)) s hp
    refine ⟨ds.take n ++ [.tup (ds.drop n)], bx, _, μ, ((r.take n).ext s e2).append (show Rps K CA _ μ _ [.tup (ds.drop n)] [V.ref p] from ⟨⟨p, vs.drop n, rfl, .inl ⟨.inr rfl, upd_same⟩, (r.drop n).ext s e2⟩, trivial⟩), s.new hp, ?_⟩
    unfold ar
    rw [if_pos (by rw [List.length_append, List.length_take, List.length_singleton]; omega)]
    exact OkG.shift (o := mf (ds.take n ++ [.tup (ds.drop n)]) bx) e2 (fun F2 H2 r v z => RRv.of e2 z) o
  · rw [if_neg h] at o; exact o.elim
end
/-! ### calls of values -/
def CallS (X : Cx) (u : Value) (r : List V → L2.St → Hp → VK → Prop) : Prop :=
  ∀ (pins : List (Addr × Obj)) (s : Shared) (σ : L2.St) (H : Hp) (vs : List V) (us : List Value) (Q : VK), Inv X pins σ H s → Vals vs us → r vs σ H Q → wpAny (model X.prog X.w) X.A (call u us) (EP X pins σ Q) X.xe s
/-- calling the value u does mf -/
structure DF (X : Cx) (CA : Ly) (W : WX) (u : Addr) (mf : MF) : Prop where
  kp : PySem.W.keepIn X.K (.ref u) = true
  ex : ∃ r, CallS X (.ref u) r ∧ ∀ ds vs bx F μ σ H Q, Sx X.K CA F μ H bx → Rps X.K CA F μ H ds vs → OkG X.K CA W F μ σ H (fun F' H' => RRv X.K CA F' μ H H') (mf ds bx) Q → r vs σ H Q
section
variable {X : Cx} {CA : Ly} {W : WX} {k : Nat} {f C : Addr} {mf : MF}
theorem run_fnRS {sp : Sp} {E : XK} {pins : List (Addr × Obj)} {σ : L2.St} {H : Hp} {s : Shared} {Q : VK} {us : List Value} {vs : List V} (F : FnR X.prog X.w X.K X.mg X.base (L2.CX X.prog X.w) k f sp) (hr : Room k X.A) (hx : PassesAt (L2.CX X.prog X.w) X σ E)
    (I : Inv X pins σ H s) (r : Vals vs us) (h : sp vs H Q E) : codeAny (model X.prog X.w) X.A (.call (.ref f) ⟨us, []⟩) (fun r s' => match r with | .ok (.ret v) => EP X pins σ Q v s' | .ok _ => False | .error e => X.xe e s') s := by
  refine codeAny_mono (F X.A X.stack s H us vs Q E hr I.env0 r h) fun r s' hq => ?_
  cases r with
  | error e => exact hx pins H s e s' I hq
  | ok fl =>
    cases fl with
    | ret u => exact I.after hq
    | next => exact False.elim hq
    | brk => exact False.elim hq
    | cont => exact False.elim hq
theorem df_fn (tk : Takes X W) (F : FnR X.prog X.w X.K X.mg X.base (L2.CX X.prog X.w) k f (spR X.K CA mf)) (hr : Room k X.A) (hk : PySem.W.keepIn X.K (.ref f) = true) : DF X CA W f mf := by
  refine ⟨hk, fun vs σ H Q => spR X.K CA mf vs H Q (WE W σ), fun pins s σ H vs us Q I r h => wpAny_call (run_fnRS F hr (passAt tk σ) I r h), fun ds vs bx F μ σ H Q s r o => ⟨ds, bx, F, μ, r, s, o.wish⟩⟩
/-- C(..) by its __init__ -/
def mkD (c : Nat) (mf : MF) : MF := fun ds bx => match mf (.box bx.length :: ds) (bx ++ [.ins c [] []]) with
  | .ok (.val .non) b => if b.length = bx.length + 1 ∧ (b.take bx.length).all (D.cl bx.length) = true then (match b[bx.length]? with
    | some d => if d.cl bx.length = true then .ok (.new d) (b.take bx.length) else .stk
    | none => .stk) else .stk
  | .exn c ns es b => if b.length = bx.length + 1 ∧ ((b.take bx.length).all (D.cl bx.length) && D.cls bx.length es) = true then .exn c ns es (b.take bx.length) else .stk
  | _ => .stk
theorem Sx.made {K : PySem.W.Frag} {F : Addr → Prop} {μ : List Addr} {H : Hp} {bx : List D} {x dx : Addr} {c : Nat} (s : Sx K CA F μ H bx) (hx : H x = none) (hd : H dx = none) (hn : dx ≠ x) :
    Sx K CA F (μ ++ [x]) (upd (upd H dx (.own x)) x (.ins (CA c) dx [])) (bx ++ [.ins c [] []]) := by
  have s1 : Sx K CA F μ (upd H dx (.own x)) bx := s.tmp hd
  have hx1 : upd H dx (.own x) x = none := by rw [upd_ne hn.symm]; exact hx
  exact (s1.tmp hx1).push (s.notIn hx) (s.notF hx) ⟨dx, [], upd_same, rfl, trivial⟩
theorem df_mk {n : Nat} {c : Nat} (tk : Takes X W) (M : Mk X.K (CA c) f) (F : FnR X.prog X.w X.K X.mg X.base (L2.CX X.prog X.w) k f (spR X.K CA mf)) (hr : Room (k + 1) X.A) : DF X CA W (CA c) (mkD c mf) := by
  refine ⟨M.kp, fun vs σ H Q => ∀ x dx, H x = none → H dx = none → dx ≠ x → spR X.K CA mf (V.ref x :: vs) (upd (upd H dx (.own x)) x (.ins (CA c) dx [])) (fun v H2 => v = .non ∧ Q (.ref x) H2) (WE W σ), fun pins s σ H vs us Q I r h => ?_, fun ds vs bx F μ σ H Q s r o => ?_⟩
  · have hq := h (s.heap.objs.size + 1) s.heap.objs.size (I.hok.fresh (Nat.le_succ _)) (I.hok.fresh (Nat.le_refl _)) (Nat.ne_of_lt (Nat.lt_succ_self _))
    have I2 := Inv.made (C := CA c) I
    have r2 : Vals (V.ref (s.heap.objs.size + 1) :: vs) (Value.ref (s.heap.objs.size + 1) :: us) := .cons rfl r
    refine wpAny_call (make_map (f := f) I.kIn M.makes M.init (beq_iff_eq.mp M.fn) (codeAny_mono (F _ X.stack _ _ (Value.ref (s.heap.objs.size + 1) :: us) _ _ _ (hr.make (CA c) us []) (I2.env0.make (CA c) us []) r2 hq) fun r s' hq' => ?_))
    cases r with
    | error e => exact passAt tk σ pins _ _ e s' I2 hq'
    | ok fl =>
      cases fl with
      | ret u =>
        obtain ⟨v, H', I3, rv, ev, q3⟩ := I2.after hq'
        subst ev
        exact ⟨rv, ⟨V.ref (s.heap.objs.size + 1), H', I3, rfl, q3⟩⟩
      | next => exact False.elim hq'
      | brk => exact False.elim hq'
      | cont => exact False.elim hq'
  · intro x dx hx hd hn
    have s2 := s.made (c := c) hx hd hn
    let H2 := upd (upd H dx (.own x)) x (.ins (CA c) dx [])
    have kp : ∀ a o, H a = some o → H2 a = some o := fun a o e => by
      show upd (upd H dx (.own x)) x _ a = _
      rw [upd_ne (ne_of_none e hx), upd_ne (ne_of_none e hd)]; exact e
    have xm := s.notIn hx
    have e0 : ExtM F μ H F (μ ++ [x]) H2 := ⟨fun _ z => z, fun _ z => .inl z, fun a o e _ _ => kp a o e, [x], rfl, fun b hb => by
      have : b = x := by simpa using hb
      exact this ▸ Vac.of hx⟩
    refine ⟨.box bx.length :: ds, bx ++ [.ins c [] []], F, μ ++ [x], ⟨⟨x, rfl, by rw [s.len]; simp⟩, r.extM s e0⟩, s2, ?_⟩
    have cut : (μ ++ [x]).take bx.length = μ := by rw [s.len, List.take_left']; rfl
    have toE : ∀ {F' H'}, Ext F (μ ++ [x]) H2 F' H' → Ext F μ H F' H' := fun {F' H'} e => by
      have nx : ∀ a o, H a = some o → a ∉ μ → a ∉ μ ++ [x] := fun a o ha hm y => by
        rcases List.mem_append.mp y with y | y
        · exact hm y
        · have : a = x := by simpa using y
          rw [this, hx] at ha; cases ha
      refine ⟨e.up, fun a fa => ?_, fun a o ha hm z => e.keep a o (kp a o ha) (nx a o ha hm) z⟩
      · rcases e.fr a fa with z | z
        · exact .inl z
        · exact .inr ⟨fun o q n => z.1 o (kp a o q) n, fun y => z.2 (List.mem_append_left _ y)⟩
    unfold mkD at o
    cases q : mf (.box bx.length :: ds) (bx ++ [.ins c [] []]) with
    | stk => rw [q] at o; exact o.elim
    | exn c' ns es b =>
      rw [q] at o
      obtain ⟨⟨hl, ha⟩, o⟩ := okIf (show OkG X.K CA W F μ σ H (fun F' H' => RRv X.K CA F' μ H H') (if b.length = bx.length + 1 ∧ ((b.take bx.length).all (D.cl bx.length) && D.cls bx.length es) = true then .exn c' ns es (b.take bx.length) else .stk) Q from o)
      obtain ⟨a1, a2⟩ := Bool.and_eq_true_iff.mp ha
      intro cls dd F' H' e' s' xx
      have s3 := s'.cut a1
      rw [cut] at s3
      obtain ⟨x1, a, vs', x2, x3, x4, x5⟩ := xx
      have x6 := x5.cut a2
      rw [cut] at x6
      exact o cls dd F' H' (toE e') s3 ⟨x1, a, vs', x2, x3, x4, x6⟩
    | ok r' b =>
      cases r' with
      | new d => rw [q] at o; exact o.elim
      | val d =>
        cases d with
        | non =>
          rw [q] at o
          obtain ⟨⟨hl, ha⟩, o⟩ := okIf (show OkG X.K CA W F μ σ H (fun F' H' => RRv X.K CA F' μ H H') (if b.length = bx.length + 1 ∧ (b.take bx.length).all (D.cl bx.length) = true then (match b[bx.length]? with
            | some d => if d.cl bx.length = true then .ok (.new d) (b.take bx.length) else .stk
            | none => .stk) else .stk) Q from o)
          intro v F' H' e' s' rv
          refine ⟨rv, ?_⟩
          cases hb : b[bx.length]? with
          | none => rw [hb] at o; exact o.elim
          | some d =>
            rw [hb] at o
            obtain ⟨hc, o⟩ := okIf (show OkG X.K CA W F μ σ H (fun F' H' => RRv X.K CA F' μ H H') (if d.cl bx.length = true then .ok (.new d) (b.take bx.length) else .stk) Q from o)
            have s3 := s'.cut ha
            rw [cut] at s3
            have at3 := (s'.at_ bx.length d x hb (by rw [s.len]; simp)).cut hc
            rw [cut] at at3
            exact o (.ref x) F' H' (toE e') s3 ⟨x, rfl, .of hx, xm, s'.dj x (by simp), at3⟩
        | _ => rw [q] at o; exact o.elim
end
/-! ### the calls' nodes -/
section
variable {X : Cx} {CA : Ly} {W : WX} {e o : Expr} {es : List Expr} {pos p apos : Pos} {x : Str} {u : Addr} {mf : MF} {m : MA}
def mF (mf : MF) (a : MA) : ME := fun ρ bx => (a ρ bx).bind fun ds b => mf ds b
theorem se_callG (hf : DF X CA W u mf) (hg : Gl X x) (hm : X.mg x = some (.ref u)) (ha : SA X CA W (e :: es) m) (hdb : (x == ("__debug__" : Str)) = false := by decide)
    (he : starEach (e :: es) X.env = (false, eval e X.env) :: starEach es X.env := by rfl) (hpl : (backTo pos (starEach es X.env)).any (·.1) = false := by rfl) : SE X CA W (.Call (.Name x p) (e :: es) [] pos) (mF mf m) := by
  obtain ⟨kp, r, r1, r2⟩ := hf
  obtain ⟨ta, a1, a2⟩ := ha.ex
  refine ⟨fun σ H Q => ta σ H fun vs H1 => r vs σ H1 Q, ⟨fun pins s σ H Q I h => ?_⟩, fun ρ bx F μ σ H Q s n o => a2 ρ bx F μ σ H _ s n ?_⟩
  · refine wpAny_Call_Name_kw (ld_glob I hg hm ?_ hdb)
    exact PySem.W.callWith_K (h₀ := X.base) I.ok.mod.kin kp (thn (a1.run pos pins s σ H _ I h) fun us s1 ⟨vs, H1, I1, rv, q⟩ => ⟨I1.kIn, r1 pins s1 σ H1 vs us Q I1 rv q⟩) he hpl
  · refine OkG.seq (rel2 := fun F' H' => RRv X.K CA F' μ H H') (Q := Q) o fun ds b1 vs F1 H1 e1 s1 rs o1 => ?_
    exact r2 ds vs b1 F1 μ σ H1 Q s1 rs (OkG.shiftR e1 o1)
theorem se_callG0 (hf : DF X CA W u mf) (hg : Gl X x) (hm : X.mg x = some (.ref u)) (hdb : (x == ("__debug__" : Str)) = false := by decide) : SE X CA W (.Call (.Name x p) [] [] pos) (mF mf aNil) := by
  obtain ⟨kp, r, r1, r2⟩ := hf
  refine ⟨fun σ H Q => r [] σ H Q, ⟨fun pins s σ H Q I h => ?_⟩, fun ρ bx F μ σ H Q s n o => r2 [] [] bx F μ σ H Q s trivial o⟩
  refine wpAny_Call_Name_kw (ld_glob I hg hm ?_ hdb)
  exact PySem.W.callWith_K0 I.kIn kp (r1 pins s σ H [] [] Q I .nil h)
/-- a local name that holds it -/
def mFL (i : Nat) (u : Addr) (mf : MF) (a : MA) : ME := fun ρ bx => match ρ[i]? with
  | some (some (.adr v)) => if v = u then mF mf a ρ bx else .stk
  | _ => .stk
theorem se_callL {i : Nat} (hf : DF X CA W u mf) (hN : X.N[i]? = some x) (hv : Vis X.env.scope x) (ha : SA X CA W (e :: es) m) (hd : (x == ("__debug__" : Str)) = false := by decide) (hcd : (x == ("__classdict__" : Str)) = false := by decide)
    (he : starEach (e :: es) X.env = (false, eval e X.env) :: starEach es X.env := by rfl) (hpl : (backTo pos (starEach es X.env)).any (·.1) = false := by rfl) : SE X CA W (.Call (.Name x p) (e :: es) [] pos) (mFL i u mf m) := by
  obtain ⟨kp, r, r1, r2⟩ := hf
  obtain ⟨ta, a1, a2⟩ := ha.ex
  refine ⟨fun σ H Q => σ[i]? = some (some (.ref u)) ∧ ta σ H fun vs H1 => r vs σ H1 Q, ⟨fun pins s σ H Q I h => ?_⟩, fun ρ bx F μ σ H Q s n o => ?_⟩
  · obtain ⟨hs, h⟩ := h
    refine wpAny_Call_Name_kw (thn ((pe_var (pos := p) (i := i) hN hv hd hcd).run pins s σ H (fun v H1 => v = .ref u ∧ H1 = H) I ⟨.ref u, hs, rfl, rfl⟩) fun w s1 ⟨v, H1, I1, q1, ev, eH⟩ => ?_)
    subst ev
    rw [eH] at I1
    cases q1
    exact PySem.W.callWith_K (h₀ := X.base) I.ok.mod.kin kp (thn (a1.run pos pins s1 σ H _ I1 h) fun us s1 ⟨vs, H1, I1, rv, q⟩ => ⟨I1.kIn, r1 pins s1 σ H1 vs us Q I1 rv q⟩) he hpl
  · unfold mFL at o
    cases q : ρ[i]? with
    | none => rw [q] at o; exact o.elim
    | some d0 => cases d0 with
      | none => rw [q] at o; exact o.elim
      | some d => cases d with
        | adr v =>
          rw [q] at o
          obtain ⟨ev, oq⟩ := okIf (show OkG X.K CA W F μ σ H (fun F' H' => RRv X.K CA F' μ H H') (if v = u then mF mf m ρ bx else .stk) Q from o)
          subst ev
          obtain ⟨w, w1, w2⟩ := n.at_ i _ q
          refine ⟨by rw [w1, show w = V.ref v from w2], a2 ρ bx F μ σ H _ s n ?_⟩
          refine OkG.seq (rel2 := fun F' H' => RRv X.K CA F' μ H H') (Q := Q) oq fun ds b1 vs F1 H1 e1 s1 rs o1 => ?_
          exact r2 ds vs b1 F1 μ σ H1 Q s1 rs (OkG.shiftR e1 o1)
        | _ => rw [q] at o; exact o.elim
theorem se_callL0 {i : Nat} (hf : DF X CA W u mf) (hN : X.N[i]? = some x) (hv : Vis X.env.scope x) (hd : (x == ("__debug__" : Str)) = false := by decide) (hcd : (x == ("__classdict__" : Str)) = false := by decide) : SE X CA W (.Call (.Name x p) [] [] pos) (mFL i u mf aNil) := by
  obtain ⟨kp, r, r1, r2⟩ := hf
  refine ⟨fun σ H Q => σ[i]? = some (some (.ref u)) ∧ r [] σ H Q, ⟨fun pins s σ H Q I h => ?_⟩, fun ρ bx F μ σ H Q s n o => ?_⟩
  · obtain ⟨hs, h⟩ := h
    refine wpAny_Call_Name_kw (thn ((pe_var (pos := p) (i := i) hN hv hd hcd).run pins s σ H (fun v H1 => v = .ref u ∧ H1 = H) I ⟨.ref u, hs, rfl, rfl⟩) fun w s1 ⟨v, H1, I1, q1, ev, eH⟩ => ?_)
    subst ev
    rw [eH] at I1
    cases q1
    exact PySem.W.callWith_K0 I1.kIn kp (r1 pins s1 σ H [] [] Q I1 .nil h)
  · unfold mFL at o
    cases q : ρ[i]? with
    | none => rw [q] at o; exact o.elim
    | some d0 => cases d0 with
      | none => rw [q] at o; exact o.elim
      | some d => cases d with
        | adr v =>
          rw [q] at o
          obtain ⟨ev, oq⟩ := okIf (show OkG X.K CA W F μ σ H (fun F' H' => RRv X.K CA F' μ H H') (if v = u then mF mf aNil ρ bx else .stk) Q from o)
          subst ev
          obtain ⟨w, w1, w2⟩ := n.at_ i _ q
          exact ⟨by rw [w1, show w = V.ref v from w2], r2 [] [] bx F μ σ H Q s trivial oq⟩
        | _ => rw [q] at o; exact o.elim
/-! ### classmethods: C.m(..) -/
def mCM (u : Addr) (mf : MF) (o : ME) (a : MA) : ME := fun ρ bx => (o ρ bx).bind fun r b => match r.d with
  | .adr v => if v = u then (a ρ b).bind fun ds b1 => mf (.adr v :: ds) b1 else .stk
  | _ => .stk
section
variable {k : Nat} {C g q : Addr} {mc : Value} {name : Str} {mo : ME} {pl : Sem Bool}
theorem run_cmS {sp : Sp} {E : XK} {pins : List (Addr × Obj)} {σ : L2.St} {H : Hp} {s : Shared} {Q : VK} {us : List Value} {vs : List V} (F : FnR X.prog X.w X.K X.mg X.base (L2.CX X.prog X.w) k g sp) (hr : Room k X.A) (hx : PassesAt (L2.CX X.prog X.w) X σ E) (I : Inv X ((q, PySem.W.methodObj (.ref g) (.ref C)) :: pins) σ H s)
    (r : Vals vs us) (h : sp (.ref C :: vs) H Q E) : wpAny (model X.prog X.w) X.A (call (.ref q) us) (EP X pins σ Q) X.xe s := by
  have z : wpAny (model X.prog X.w) X.A (call (.ref q) us) (EP X ((q, PySem.W.methodObj (.ref g) (.ref C)) :: pins) σ Q) X.xe s :=
    wpAny_call (PySem.W.method_call (ClX.pin_at I) (run_fnRS (us := .ref C :: us) (vs := .ref C :: vs) F hr hx I (.cons rfl r) h))
  exact thn z fun _ _ y => ClX.unpinE y
theorem se_cm {P : Addr} (tk : Takes X W) (r : ClX.CRead X.K C mc) (c : ClX.CMet X.K C mc name P g) (F : FnR X.prog X.w X.K X.mg X.base (L2.CX X.prog X.w) k g (spR X.K CA mf)) (hr : Room k X.A) (ho : SE X CA W o mo) (ha : SA X CA W (e :: es) m)
    (hst : starEach (e :: es) X.env = (false, eval e X.env) :: starEach es X.env := by rfl) (hpl : (backTo pos (starEach es X.env)).any (·.1) = false := by rfl)
    (ht : eval (.Call (.Attribute o name apos) (e :: es) [] pos) X.env = (do
      let ov ← eval o X.env
      standAt apos.atName
      let (f, first) ← holding [ov] (getMethod ov name pl)
      callWith pos f first (backTo pos (starEach (e :: es) X.env)) (backToKw pos (keywordEach [] X.env))) := by rfl) :
    SE X CA W (.Call (.Attribute o name apos) (e :: es) [] pos) (mCM C mf mo m) := by
  obtain ⟨to, o1, o2⟩ := ho.dat
  obtain ⟨ta, a1, a2⟩ := ha.ex
  refine ⟨fun σ H Q => to σ H fun x H1 => x = .ref C ∧ ta σ H1 fun vs H2 => spR X.K CA mf (.ref C :: vs) H2 Q (WE W σ), ⟨fun pins s σ H Q I h => ?_⟩, fun ρ bx F μ σ H Q s n o => o2 ρ bx F μ σ H _ s n ?_⟩
  · refine PySem.W.methodCall_KW (pl := pl) (thn (o1.run pins s σ H _ I h) fun u s1 ⟨x, H1, I1, rx, ex, q⟩ => ?_) ht
    subst ex
    obtain rfl : u = Value.ref C := rx
    refine ClX.getmethcm_ok I1 r c fun s2 I2 => ?_
    refine ClX.callwith_cm I2 (ClX.base_none I1 (Nat.le_refl _)) c.fi (thn (a1.run pos _ s2 σ H1 _ I2 q) fun us s3 ⟨vs, H2, I3, rv, q2⟩ => ⟨⟨ClX.pin_at I3, I3.kIn⟩, ?_⟩) hst hpl
    exact run_cmS F hr (passAt tk σ) I3 rv q2
  · have o' : OkG X.K CA W F μ σ H (fun F' H' => RRv X.K CA F' μ H H') (((mo ρ bx).map R.d).bind fun d b => match d with
      | .adr v => if v = C then (m ρ b).bind fun ds b1 => mf (.adr v :: ds) b1 else .stk
      | _ => .stk) Q := by rw [map_bind]; exact o
    refine o'.seq fun d b v F1 H1 e1 s1 rv oo => ?_
    cases d with
    | adr v' =>
      obtain ⟨ev, oq⟩ := okIf (show OkG X.K CA W F μ σ H (fun F' H' => RRv X.K CA F' μ H H') (if v' = C then (m ρ b).bind fun ds b1 => mf (.adr v' :: ds) b1 else .stk) Q from oo)
      subst ev
      refine ⟨rv, a2 ρ b F1 μ σ H1 _ s1 (n.ext s e1) ?_⟩
      refine OkG.seq (rel2 := fun F' H' => RRv X.K CA F' μ H1 H') (Q := Q) (OkG.shiftR e1 oq) fun ds b1 ws F2 H2 e2 s2 rs o3 => ?_
      exact ⟨.adr v' :: ds, b1, F2, μ, ⟨rfl, rs⟩, s2, (OkG.shiftR e2 o3).wish⟩
    | _ => exact oo.elim
theorem se_cm0 {P : Addr} (tk : Takes X W) (r : ClX.CRead X.K C mc) (c : ClX.CMet X.K C mc name P g) (F : FnR X.prog X.w X.K X.mg X.base (L2.CX X.prog X.w) k g (spR X.K CA mf)) (hr : Room k X.A) (ho : SE X CA W o mo)
    (ht : eval (.Call (.Attribute o name apos) [] [] pos) X.env = (do
      let ov ← eval o X.env
      standAt apos.atName
      let (f, first) ← holding [ov] (getMethod ov name pl)
      callWith pos f first (backTo pos (starEach [] X.env)) (backToKw pos (keywordEach [] X.env))) := by rfl) :
    SE X CA W (.Call (.Attribute o name apos) [] [] pos) (mCM C mf mo aNil) := by
  obtain ⟨to, o1, o2⟩ := ho.dat
  refine ⟨fun σ H Q => to σ H fun x H1 => x = .ref C ∧ spR X.K CA mf [.ref C] H1 Q (WE W σ), ⟨fun pins s σ H Q I h => ?_⟩, fun ρ bx F μ σ H Q s n o => o2 ρ bx F μ σ H _ s n ?_⟩
  · refine PySem.W.methodCall_KW (pl := pl) (thn (o1.run pins s σ H _ I h) fun u s1 ⟨x, H1, I1, rx, ex, q⟩ => ?_) ht
    subst ex
    obtain rfl : u = Value.ref C := rx
    refine ClX.getmethcm_ok I1 r c fun s2 I2 => ?_
    exact PySem.W.callWith_M0 (first := []) ⟨ClX.pin_at I2, I2.kIn⟩ c.fi (run_cmS (us := []) (vs := []) F hr (passAt tk σ) I2 .nil q)
  · have o' : OkG X.K CA W F μ σ H (fun F' H' => RRv X.K CA F' μ H H') (((mo ρ bx).map R.d).bind fun d b => match d with
      | .adr v => if v = C then (aNil ρ b).bind fun ds b1 => mf (.adr v :: ds) b1 else .stk
      | _ => .stk) Q := by rw [map_bind]; exact o
    refine o'.seq fun d b v F1 H1 e1 s1 rv oo => ?_
    cases d with
    | adr v' =>
      obtain ⟨ev, oq⟩ := okIf (show OkG X.K CA W F μ σ H (fun F' H' => RRv X.K CA F' μ H H') (if v' = C then (aNil ρ b).bind fun ds b1 => mf (.adr v' :: ds) b1 else .stk) Q from oo)
      subst ev
      exact ⟨rv, [.adr v'], b, F1, μ, ⟨rfl, trivial⟩, s1, (OkG.shiftR e1 oq).wish⟩
    | _ => exact oo.elim
end
/-! ### instances -/
def D.obj (bx : List D) : D → Option (Nat × List Str × List D)
  | .ins c ns ds => some (c, ns, ds)
  | .box n => match bx[n]? with
    | some (.ins c ns ds) => some (c, ns, ds)
    | _ => none
  | _ => none
theorem obj_at {K : PySem.W.Frag} {F : Addr → Prop} {μ : List Addr} {H : Hp} {bx : List D} {d : D} {v : V} {c : Nat} {ns : List Str} {ds : List D} (s : Sx K CA F μ H bx) (r : Rp K CA F μ H d v) (e : d.obj bx = some (c, ns, ds)) :
    ∃ a dx vs, v = .ref a ∧ H a = some (.ins (CA c) dx (ns.zip vs)) ∧ ns.length = ds.length ∧ Rps K CA F μ H ds vs := by
  cases d with
  | ins c' ns' ds' =>
    cases e
    obtain ⟨a, dx, vs, q1, _, q2, q3, q4⟩ := r
    exact ⟨a, dx, vs, q1, q2, q3, q4⟩
  | box n =>
    obtain ⟨a, q1, q2⟩ := r
    unfold D.obj at e
    cases hb : bx[n]? with
    | none => simp only [hb] at e; cases e
    | some d' =>
      cases d' with
      | ins c' ns' ds' =>
        simp only [hb] at e
        cases e
        obtain ⟨dx, vs, w1, w2, w3⟩ := s.at_ n _ a hb q2
        exact ⟨a, dx, vs, q1, w1, w2, w3⟩
      | _ => simp only [hb] at e; cases e
  | _ => cases e
def getF (f : Str) : List Str → List D → Option D
  | n :: ns, d :: ds => if n = f then some d else getF f ns ds
  | _, _ => none
def hasF (f : Str) (ns : List Str) : Bool := ns.any (· == f)
theorem getF_at {K : PySem.W.Frag} {F : Addr → Prop} {μ : List Addr} {H : Hp} {f : Str} : ∀ {ns : List Str} {ds : List D} {vs : List V} {d : D}, Rps K CA F μ H ds vs → getF f ns ds = some d → ∃ v, (ns.zip vs).lookup f = some v ∧ Rp K CA F μ H d v
  | [], _, _, _, _, e => by unfold getF at e; cases e
  | _ :: _, [], _, _, _, e => by unfold getF at e; cases e
  | _ :: _, _ :: _, [], _, r, _ => r.elim
  | n :: ns, d0 :: ds, v0 :: vs, d, r, e => by
    unfold getF at e
    by_cases h : n = f
    · rw [if_pos h] at e
      cases e
      refine ⟨v0, ?_, r.1⟩
      rw [List.zip_cons_cons, List.lookup_cons, h]
      simp
    · rw [if_neg h] at e
      obtain ⟨v, h1, h2⟩ := getF_at r.2 e
      refine ⟨v, ?_, h2⟩
      rw [List.zip_cons_cons, List.lookup_cons]
      have : (f == n) = false := beq_false_of_ne fun z => h z.symm
      rw [this]
      exact h1
theorem hasF_no {f : Str} : ∀ {ns : List Str} {vs : List V}, hasF f ns = false → (ns.zip vs).lookup f = none
  | [], _, _ => by simp
  | _ :: _, [], _ => by simp
  | n :: ns, v :: vs, h => by
    unfold hasF at h
    rw [List.any_cons, Bool.or_eq_false_iff] at h
    rw [List.zip_cons_cons, List.lookup_cons]
    have : (f == n) = false := beq_false_of_ne fun z => by rw [z] at h; simp at h
    rw [this]
    exact hasF_no (ns := ns) h.2
/-- o.f -/
def fldD (f : Str) (cs : List Nat) (d : D) (bx : List D) : Out R := match d.obj bx with
  | some (c, ns, ds) => if c ∈ cs then (match getF f ns ds with
    | some v => OK v bx
    | none => .stk) else .stk
  | none => .stk
theorem se_fld {f : Str} {cs : List Nat} {mo : ME} (ho : SE X CA W o mo) (hc : ∀ c ∈ cs, Cls X.K (CA c) ∧ NoAttr X.K (CA c) f) (hb : attributeBase o f X.env (eval o X.env) = eval o X.env := by rfl) : SE X CA W (.Attribute o f pos) (mUn (fldD f cs) mo) := by
  obtain ⟨to, o1, o2⟩ := ho.dat
  refine ⟨_, pe_fld o1 hb, fun ρ bx F μ σ H Q s n o => ?_⟩
  refine un_ok (g := fldD f cs) (r := fun x H1 Q => ∃ a C dx fs v, x = .ref a ∧ H1 a = some (.ins C dx fs) ∧ Cls X.K C ∧ NoAttr X.K C f ∧ fs.lookup f = some v ∧ Q v H1) o2 (fun x vx bx F μ σ H Q s rx o => ?_) ρ bx F μ σ H Q s n o
  unfold fldD at o
  cases q : x.obj bx with
  | none => rw [q] at o; exact o.elim
  | some t =>
    obtain ⟨c, ns, ds⟩ := t
    rw [q] at o
    obtain ⟨hcs, o⟩ := okIf (show OkG X.K CA W F μ σ H (fun F' H' => RRv X.K CA F' μ H H') (if c ∈ cs then (match getF f ns ds with | some v => OK v bx | none => .stk) else .stk) Q from o)
    cases q2 : getF f ns ds with
    | none => rw [q2] at o; exact o.elim
    | some d =>
      rw [q2] at o
      obtain ⟨a, dx, vs, h1, h2, h3, h4⟩ := obj_at s rx q
      obtain ⟨v, l1, l2⟩ := getF_at h4 q2
      exact ⟨a, CA c, dx, ns.zip vs, v, h1, h2, (hc c hcs).1, (hc c hcs).2, l1, okV o s l2⟩
def putFD (f : Str) (v : D) : List Str → List D → List Str × List D
  | n :: ns, d :: ds => if n = f then (n :: ns, v :: ds) else let r := putFD f v ns ds; (n :: r.1, d :: r.2)
  | _, _ => ([f], [v])
theorem putFD_at {K : PySem.W.Frag} {F : Addr → Prop} {μ : List Addr} {H : Hp} {f : Str} {d : D} {v : V} (rv : Rp K CA F μ H d v) : ∀ {ns : List Str} {ds : List D} {vs : List V}, ns.length = ds.length → Rps K CA F μ H ds vs →
    ∃ vs', putF f v (ns.zip vs) = (putFD f d ns ds).1.zip vs' ∧ (putFD f d ns ds).1.length = (putFD f d ns ds).2.length ∧ Rps K CA F μ H (putFD f d ns ds).2 vs'
  | [], [], [], _, _ => ⟨[v], rfl, rfl, rv, trivial⟩
  | [], _ :: _, _, h, _ => by cases h
  | _ :: _, [], _, h, _ => by cases h
  | [], [], _ :: _, _, r => r.elim
  | _ :: _, _ :: _, [], _, r => r.elim
  | n :: ns, d0 :: ds, v0 :: vs, h, r => by
    unfold putFD
    by_cases e : n = f
    · rw [if_pos e]
      refine ⟨v :: vs, ?_, by simpa using h, rv, r.2⟩
      rw [List.zip_cons_cons, List.zip_cons_cons]
      unfold putF
      rw [if_pos e]
    · rw [if_neg e]
      obtain ⟨vs', h1, h2, h3⟩ := putFD_at rv (ns := ns) (by simpa using h) r.2
      refine ⟨v0 :: vs', ?_, by simpa using h2, r.1, h3⟩
      rw [List.zip_cons_cons]
      unfold putF
      rw [if_neg e, h1]
      rfl
/-- a box's instance becomes another one -/
theorem okBI {F : Addr → Prop} {μ : List Addr} {H : Hp} {bx ds : List D} {ns : List Str} {vs : List V} {n c : Nat} {p dx : Addr} (s : Sx X.K CA F μ H bx) (hp : μ[n]? = some p) (hl : ns.length = ds.length) (r : Rps X.K CA F μ H ds vs) :
    Ext F μ H F (upd H p (.ins (CA c) dx (ns.zip vs))) ∧ Sx X.K CA F μ (upd H p (.ins (CA c) dx (ns.zip vs))) (bx.set n (.ins c ns ds)) := by
  have pm : p ∈ μ := List.mem_of_getElem? hp
  have hF := s.dj p pm
  have st : Stay F H (upd H p (.ins (CA c) dx (ns.zip vs))) := fun a u fa e => by rw [upd_ne (fun (z : a = p) => hF (z ▸ fa))]; exact e
  refine ⟨.all (fun _ z => z) (fun _ z => .inl z) fun a u e hm => by rw [upd_ne (fun (z : a = p) => hm (z ▸ pm))]; exact e, ⟨by rw [List.length_set]; exact s.len, fun m d a h1 h2 => ?_, s.nd, s.dj, fun a fa => ?_, fun a u fa e => ?_, Tabs.keep s.tb fun b u e z => ?_⟩⟩
  · by_cases e : n = m
    · subst e
      rw [hp] at h2; cases h2
      have hn : n < bx.length := by
        have := (List.getElem?_eq_some_iff.mp h1).1
        rwa [List.length_set] at this
      rw [List.getElem?_set_self hn] at h1
      cases h1
      exact ⟨dx, vs, upd_same, hl, r.mono (fun _ z => z) (fun _ _ z => z) st⟩
    · rw [List.getElem?_set_ne e] at h1
      have ne : a ≠ p := fun z => by
        subst z
        obtain ⟨i1, e1⟩ := List.getElem?_eq_some_iff.mp hp
        obtain ⟨i2, e2⟩ := List.getElem?_eq_some_iff.mp h2
        exact e ((List.getElem_inj s.nd).mp (e1.trans e2.symm))
      exact At.mono (h := s.at_ m d a h1 h2) (hF := fun _ z => z) (hm := fun _ _ z => z) (hs := st) (ha := fun u q => by rw [upd_ne ne]; exact q)
  · obtain ⟨u, q⟩ := s.tr a fa
    exact ⟨u, by rw [upd_ne (fun (z : a = p) => hF (z ▸ fa))]; exact q⟩
  · rw [upd_ne (fun (z : a = p) => hF (z ▸ fa))] at e
    exact s.ft a u fa e
  · rw [upd_ne (fun (q : b = p) => ?_)]
    · exact e
    · obtain ⟨n', hn', e2⟩ := List.mem_iff_getElem.mp pm
      have at_ := s.at_ n' _ p (List.getElem?_eq_getElem (s.len ▸ hn')) (by rw [List.getElem?_eq_getElem hn', e2])
      exact at_.plain u (q ▸ e) z
/-- o.f = v, o a box -/
def setF (f : Str) (cs : List Nat) (o v : D) (bx : List D) : Option (List D) := match o with
  | .box n => (match bx[n]? with
    | some (.ins c ns ds) => if c ∈ cs ∧ ns.length < 1000 then some (bx.set n (.ins c (putFD f v ns ds).1 (putFD f v ns ds).2)) else none
    | _ => none)
  | _ => none
def mSetF (f : Str) (cs : List Nat) (m mo : ME) : MS := fun ρ bx => liftE (m ρ bx) ρ fun v b => liftE (mo ρ b) ρ fun o b1 => match setF f cs o.d v.d b1 with
  | some b2 => .nx ρ b2
  | none => .stk
theorem ss_setF {f : Str} {cs : List Nat} {m mo : ME} {pos' : Pos} (hv : SE X CA W e m) (ho : SE X CA W o mo) (hc : ∀ c ∈ cs, Cls X.K (CA c) ∧ NoAttr X.K (CA c) f) (hs : swapsWith e (some (.Attribute o f pos')) pos.line X.env = pure false := by rfl) :
    SS X CA W (.Assign [.Attribute o f pos'] e pos) (mSetF f cs m mo) := by
  obtain ⟨t, t1, t2⟩ := hv.dat
  obtain ⟨u, u1, u2⟩ := ho.dat
  refine ⟨_, ps_fld u1 t1 hs, fun ρ bx F μ σ H D s n o => t2 ρ bx F μ σ H _ s n ?_⟩
  have o' : OkS X.K CA W F μ H D (liftE ((m ρ bx).map R.d) ρ fun v b => liftE ((mo ρ b).map R.d) ρ fun o b1 => match setF f cs o v b1 with
    | some b2 => .nx ρ b2
    | none => .stk) := by
    rw [liftE_map]
    have e1 : (fun (r : R) b => liftE ((mo ρ b).map R.d) ρ fun o b1 => match setF f cs o r.d b1 with
      | some b2 => OutS.nx ρ b2
      | none => .stk) = fun r b => liftE (mo ρ b) ρ fun o b1 => match setF f cs o.d r.d b1 with
      | some b2 => OutS.nx ρ b2
      | none => .stk := by
      funext r b
      rw [liftE_map]
    rw [e1]
    exact o
  refine OkS.seqE s n o' fun v b vv F1 H1 e1 s1 rv o1 => ?_
  refine u2 ρ b F1 μ σ H1 _ s1 (n.ext s e1) (OkS.seqE s1 (n.ext s e1) (OkS.shiftE e1 s1 o1) fun od b1 ov F2 H2 e2 s2 ro o2 => ?_)
  have o4 := OkS.shiftE e2 s2 o2
  have rv3 := rv.ext s1 e2
  have n3 := (n.ext s e1).ext s1 e2
  cases q : setF f cs od v b1 with
  | none => rw [q] at o4; exact o4.elim
  | some b3 =>
    rw [q] at o4
    unfold setF at q
    cases od with
    | box k =>
      simp only at q
      cases hb : b1[k]? with
      | none => simp only [hb] at q; cases q
      | some d' => cases d' with
        | ins c ns ds =>
          simp only [hb] at q
          by_cases hcs : c ∈ cs ∧ ns.length < 1000
          · rw [if_pos hcs] at q
            cases q
            obtain ⟨p, q1, q2⟩ := ro
            obtain ⟨dx, vs, w1, w2, w3⟩ := s2.at_ k _ p hb q2
            obtain ⟨vs', h1, h2, h3⟩ := putFD_at rv3 w2 w3
            have up := okBI (c := c) (dx := dx) s2 q2 h2 h3
            refine ⟨p, CA c, dx, ns.zip vs, q1, w1, (hc c hcs.1).1, (hc c hcs.1).2, ?_, ?_⟩
            · rw [List.length_zip]; exact Nat.lt_of_le_of_lt (Nat.min_le_left _ _) hcs.2
            · rw [h1]
              exact o4 σ F2 μ _ up.1.m up.2 (n3.ext s2 up.1)
          · rw [if_neg hcs] at q; cases q
        | _ => simp only [hb] at q; cases q
    | _ => cases q
/-! ### methods of own classes -/
/-- o.m(..): o of the class c -/
def mMt (c : Nat) (name : Str) (mf : MF) (o : ME) (a : MA) : ME := fun ρ bx => (o ρ bx).bind fun r b => match r.d.obj b with
  | some (c', ns, _) => if c' = c ∧ hasF name ns = false then (a ρ b).bind fun ds b1 => mf (r.d :: ds) b1 else .stk
  | none => .stk
section
variable {k c : Nat} {g : Addr} {name : Str} {mo : ME} {pl : Sem Bool}
theorem se_mt (tk : Takes X W) (cl : Cls X.K (CA c)) (hm : Meth X.K (CA c) name g) (F : FnR X.prog X.w X.K X.mg X.base (L2.CX X.prog X.w) k g (spR X.K CA mf)) (hr : Room k X.A) (ho : SE X CA W o mo) (ha : SA X CA W (e :: es) m)
    (hst : starEach (e :: es) X.env = (false, eval e X.env) :: starEach es X.env := by rfl) (hpl : (backTo pos (starEach es X.env)).any (·.1) = false := by rfl)
    (ht : eval (.Call (.Attribute o name apos) (e :: es) [] pos) X.env = (do
      let ov ← eval o X.env
      standAt apos.atName
      let (f, first) ← holding [ov] (getMethod ov name pl)
      callWith pos f first (backTo pos (starEach (e :: es) X.env)) (backToKw pos (keywordEach [] X.env))) := by rfl) :
    SE X CA W (.Call (.Attribute o name apos) (e :: es) [] pos) (mMt c name mf mo m) := by
  obtain ⟨to, o1, o2⟩ := ho.dat
  obtain ⟨ta, a1, a2⟩ := ha.ex
  refine ⟨fun σ H Q => to σ H fun x H1 => ∃ a dx fs, x = .ref a ∧ H1 a = some (.ins (CA c) dx fs) ∧ fs.lookup name = none ∧ ta σ H1 fun vs H2 => spR X.K CA mf (x :: vs) H2 Q (WE W σ), ⟨fun pins s σ H Q I h => ?_⟩, fun ρ bx F μ σ H Q s n o => o2 ρ bx F μ σ H _ s n ?_⟩
  · refine PySem.W.methodCall_KW (pl := pl) (thn (o1.run pins s σ H _ I h) fun u s1 ⟨x, H1, I1, rx, a, dx, fs, ex, ea, l, q⟩ => ?_) ht
    subst ex
    obtain rfl : u = Value.ref a := rx
    refine getmeth_ok I1 ea cl hm l ?_
    refine PySem.W.callWith_K (first := [.ref a]) (h₀ := X.base) I.ok.mod.kin hm.kp (thn (a1.run pos pins s1 σ H1 _ I1 q) fun us s2 ⟨vs, H2, I2, r, q2⟩ => ⟨I2.kIn, ?_⟩) hst hpl
    exact wpAny_call (run_fnRS (us := .ref a :: us) (vs := .ref a :: vs) F hr (passAt tk σ) I2 (.cons rfl r) q2)
  · have o' : OkG X.K CA W F μ σ H (fun F' H' => RRv X.K CA F' μ H H') (((mo ρ bx).map R.d).bind fun d b => match d.obj b with
      | some (c', ns, _) => if c' = c ∧ hasF name ns = false then (m ρ b).bind fun ds b1 => mf (d :: ds) b1 else .stk
      | none => .stk) Q := by rw [map_bind]; exact o
    refine o'.seq fun d b v F1 H1 e1 s1 rv oo => ?_
    cases q : d.obj b with
    | none => rw [q] at oo; exact oo.elim
    | some t =>
      obtain ⟨c', ns, ds0⟩ := t
      rw [q] at oo
      obtain ⟨⟨ec, hf⟩, oq⟩ := okIf (show OkG X.K CA W F μ σ H (fun F' H' => RRv X.K CA F' μ H H') (if c' = c ∧ hasF name ns = false then (m ρ b).bind fun ds b1 => mf (d :: ds) b1 else .stk) Q from oo)
      subst ec
      obtain ⟨a, dx, vs, h1, h2, h3, h4⟩ := obj_at s1 rv q
      refine ⟨a, dx, ns.zip vs, h1, h2, hasF_no hf, a2 ρ b F1 μ σ H1 _ s1 (n.ext s e1) ?_⟩
      refine OkG.seq (rel2 := fun F' H' => RRv X.K CA F' μ H1 H') (Q := Q) (OkG.shiftR e1 oq) fun ds b1 ws F2 H2 e2 s2 rs o3 => ?_
      exact ⟨d :: ds, b1, F2, μ, ⟨rv.ext s1 e2, rs⟩, s2, (OkG.shiftR e2 o3).wish⟩
theorem se_mt0 (tk : Takes X W) (cl : Cls X.K (CA c)) (hm : Meth X.K (CA c) name g) (F : FnR X.prog X.w X.K X.mg X.base (L2.CX X.prog X.w) k g (spR X.K CA mf)) (hr : Room k X.A) (ho : SE X CA W o mo)
    (ht : eval (.Call (.Attribute o name apos) [] [] pos) X.env = (do
      let ov ← eval o X.env
      standAt apos.atName
      let (f, first) ← holding [ov] (getMethod ov name pl)
      callWith pos f first (backTo pos (starEach [] X.env)) (backToKw pos (keywordEach [] X.env))) := by rfl) :
    SE X CA W (.Call (.Attribute o name apos) [] [] pos) (mMt c name mf mo aNil) := by
  obtain ⟨to, o1, o2⟩ := ho.dat
  refine ⟨fun σ H Q => to σ H fun x H1 => ∃ a dx fs, x = .ref a ∧ H1 a = some (.ins (CA c) dx fs) ∧ fs.lookup name = none ∧ spR X.K CA mf [x] H1 Q (WE W σ), ⟨fun pins s σ H Q I h => ?_⟩, fun ρ bx F μ σ H Q s n o => o2 ρ bx F μ σ H _ s n ?_⟩
  · refine PySem.W.methodCall_KW (pl := pl) (thn (o1.run pins s σ H _ I h) fun u s1 ⟨x, H1, I1, rx, a, dx, fs, ex, ea, l, q⟩ => ?_) ht
    subst ex
    obtain rfl : u = Value.ref a := rx
    refine getmeth_ok I1 ea cl hm l ?_
    exact PySem.W.callWith_K0 (first := [.ref a]) I1.kIn hm.kp (wpAny_call (run_fnRS (us := [.ref a]) (vs := [.ref a]) F hr (passAt tk σ) I1 (.cons rfl .nil) q))
  · have o' : OkG X.K CA W F μ σ H (fun F' H' => RRv X.K CA F' μ H H') (((mo ρ bx).map R.d).bind fun d b => match d.obj b with
      | some (c', ns, _) => if c' = c ∧ hasF name ns = false then (aNil ρ b).bind fun ds b1 => mf (d :: ds) b1 else .stk
      | none => .stk) Q := by rw [map_bind]; exact o
    refine o'.seq fun d b v F1 H1 e1 s1 rv oo => ?_
    cases q : d.obj b with
    | none => rw [q] at oo; exact oo.elim
    | some t =>
      obtain ⟨c', ns, ds0⟩ := t
      rw [q] at oo
      obtain ⟨⟨ec, hf⟩, oq⟩ := okIf (show OkG X.K CA W F μ σ H (fun F' H' => RRv X.K CA F' μ H H') (if c' = c ∧ hasF name ns = false then (aNil ρ b).bind fun ds b1 => mf (d :: ds) b1 else .stk) Q from oo)
      subst ec
      obtain ⟨a, dx, vs, h1, h2, h3, h4⟩ := obj_at s1 rv q
      exact ⟨a, dx, ns.zip vs, h1, h2, hasF_no hf, [d], b, F1, μ, ⟨rv, trivial⟩, s1, (OkG.shiftR e1 oq).wish⟩
end
end
end DL

set_option Elab.async false
set_option linter.all false
set_option maxRecDepth 100000
set_option maxHeartbeats 4000000
/-! DL10: operators of own classes, isinstance. -/
namespace DQ
open PySem PyProof.Rows PySem.SeqAt
open AutoSeq1 (wpAny_loadPart')
theorem int_eq_decl {C : Value} (b : Int) (u : Tok) (l : Addr) (dd : Option Addr) (sl : Array (Option Value)) :
    Meets (Builtin.«int.__eq__» ⟨[.int b u, .ref l], []⟩) (fun _ R s => s.heap.get? l = some { cls := C, dict := dd, data := .plain, slots := sl } ∧ R (.ok (.ret .notImplemented)) s) :=
  .of_wp fun prog w A R s h => by obtain ⟨hp, g, d, tk, os⟩ := s; obtain ⟨hl, h⟩ := h; wp_walk using wpAny_loadPart' hl, wpAny_load hl; exact ⟨_, rfl, h⟩
theorem bool_eq_decl {C : Value} (b : Bool) (l : Addr) (dd : Option Addr) (sl : Array (Option Value)) :
    Meets (Builtin.«int.__eq__» ⟨[.bool b, .ref l], []⟩) (fun _ R s => s.heap.get? l = some { cls := C, dict := dd, data := .plain, slots := sl } ∧ R (.ok (.ret .notImplemented)) s) :=
  .of_wp fun prog w A R s h => by obtain ⟨hp, g, d, tk, os⟩ := s; obtain ⟨hl, h⟩ := h; wp_walk using wpAny_loadPart' hl, wpAny_load hl; exact ⟨_, rfl, h⟩
theorem str_eq_decl {C : Value} (b : Str) (u : Tok) (l : Addr) (dd : Option Addr) (sl : Array (Option Value)) :
    Meets (Builtin.«str.__eq__» ⟨[.str b u, .ref l], []⟩) (fun _ R s => s.heap.get? l = some { cls := C, dict := dd, data := .plain, slots := sl } ∧ R (.ok (.ret .notImplemented)) s) :=
  .of_wp fun prog w A R s h => by obtain ⟨hp, g, d, tk, os⟩ := s; obtain ⟨hl, h⟩ := h; wp_walk using wpAny_loadPart' hl, wpAny_load hl; exact ⟨_, rfl, h⟩
theorem none_eq_decl (l : Addr) : Meets (Builtin.«NoneType.__eq__» ⟨[.none, .ref l], []⟩) (fun _ R s => R (.ok (.ret .notImplemented)) s) :=
  .of_wp fun prog w A R s h => by obtain ⟨hp, g, d, tk, os⟩ := s; wp_walk; exact ⟨_, rfl, h⟩
theorem tuple_eq_decl (t l : Addr) (items : Array Value) (n : Nat) (dt : Option Addr) (st : Array (Option Value)) (dd : Option Addr) (sl : Array (Option Value)) {C : Addr} :
    Meets (Builtin.«tuple.__eq__» ⟨[.ref t, .ref l], []⟩) (fun _ R s => s.heap.get? t = some { cls := .type "tuple", dict := dt, data := .seq items n, slots := st } ∧ s.heap.get? l = some { cls := .ref C, dict := dd, data := .plain, slots := sl } ∧
      (∀ M : Model, PySem.W.Looks M s.heap (isSubtype (.ref C) (.type "tuple")) false) ∧ R (.ok (.ret .notImplemented)) s) :=
  .of_wp fun prog w A R s h => by
    obtain ⟨hp, g, d, tk, os⟩ := s; obtain ⟨ht, hl, lk, h⟩ := h
    have hl2 := lk (model prog w)
    wp_walk using wpAny_loadPart' ht, wpAny_loadPart' hl, wpAny_load hl, wpAny_load ht
    refine hl2.here ?_
    wp_walk
    exact ⟨_, rfl, h⟩
theorem list_eq_decl (t l : Addr) (items : Array Value) (n : Nat) (dt : Option Addr) (st : Array (Option Value)) (dd : Option Addr) (sl : Array (Option Value)) {C : Addr} :
    Meets (Builtin.«list.__eq__» ⟨[.ref t, .ref l], []⟩) (fun _ R s => s.heap.get? t = some { cls := .type "list", dict := dt, data := .seq items n, slots := st } ∧ s.heap.get? l = some { cls := .ref C, dict := dd, data := .plain, slots := sl } ∧
      (∀ M : Model, PySem.W.Looks M s.heap (isSubtype (.ref C) (.type "list")) false) ∧ R (.ok (.ret .notImplemented)) s) :=
  .of_wp fun prog w A R s h => by
    obtain ⟨hp, g, d, tk, os⟩ := s; obtain ⟨ht, hl, lk, h⟩ := h
    have hl2 := lk (model prog w)
    wp_walk using wpAny_loadPart' ht, wpAny_loadPart' hl, wpAny_load hl, wpAny_load ht
    refine hl2.here ?_
    wp_walk
    exact ⟨_, rfl, h⟩
theorem int_ne_decl {C : Value} (b : Int) (u : Tok) (l : Addr) (dd : Option Addr) (sl : Array (Option Value)) :
    Meets (Builtin.«int.__ne__» ⟨[.int b u, .ref l], []⟩) (fun _ R s => s.heap.get? l = some { cls := C, dict := dd, data := .plain, slots := sl } ∧ R (.ok (.ret .notImplemented)) s) :=
  .of_wp fun prog w A R s h => by obtain ⟨hp, g, d, tk, os⟩ := s; obtain ⟨hl, h⟩ := h; wp_walk using wpAny_loadPart' hl, wpAny_load hl; exact ⟨_, rfl, h⟩
theorem bool_ne_decl {C : Value} (b : Bool) (l : Addr) (dd : Option Addr) (sl : Array (Option Value)) :
    Meets (Builtin.«int.__ne__» ⟨[.bool b, .ref l], []⟩) (fun _ R s => s.heap.get? l = some { cls := C, dict := dd, data := .plain, slots := sl } ∧ R (.ok (.ret .notImplemented)) s) :=
  .of_wp fun prog w A R s h => by obtain ⟨hp, g, d, tk, os⟩ := s; obtain ⟨hl, h⟩ := h; wp_walk using wpAny_loadPart' hl, wpAny_load hl; exact ⟨_, rfl, h⟩
theorem str_ne_decl {C : Value} (b : Str) (u : Tok) (l : Addr) (dd : Option Addr) (sl : Array (Option Value)) :
    Meets (Builtin.«str.__ne__» ⟨[.str b u, .ref l], []⟩) (fun _ R s => s.heap.get? l = some { cls := C, dict := dd, data := .plain, slots := sl } ∧ R (.ok (.ret .notImplemented)) s) :=
  .of_wp fun prog w A R s h => by obtain ⟨hp, g, d, tk, os⟩ := s; obtain ⟨hl, h⟩ := h; wp_walk using wpAny_loadPart' hl, wpAny_load hl; exact ⟨_, rfl, h⟩
theorem none_ne_decl (l : Addr) : Meets (Builtin.«NoneType.__ne__» ⟨[.none, .ref l], []⟩) (fun _ R s => R (.ok (.ret .notImplemented)) s) :=
  .of_wp fun prog w A R s h => by obtain ⟨hp, g, d, tk, os⟩ := s; wp_walk; exact ⟨_, rfl, h⟩
theorem tuple_ne_decl (t l : Addr) (items : Array Value) (n : Nat) (dt : Option Addr) (st : Array (Option Value)) (dd : Option Addr) (sl : Array (Option Value)) {C : Addr} :
    Meets (Builtin.«tuple.__ne__» ⟨[.ref t, .ref l], []⟩) (fun _ R s => s.heap.get? t = some { cls := .type "tuple", dict := dt, data := .seq items n, slots := st } ∧ s.heap.get? l = some { cls := .ref C, dict := dd, data := .plain, slots := sl } ∧
      (∀ M : Model, PySem.W.Looks M s.heap (isSubtype (.ref C) (.type "tuple")) false) ∧ R (.ok (.ret .notImplemented)) s) :=
  .of_wp fun prog w A R s h => by
    obtain ⟨hp, g, d, tk, os⟩ := s; obtain ⟨ht, hl, lk, h⟩ := h
    have hl2 := lk (model prog w)
    wp_walk using wpAny_loadPart' ht, wpAny_loadPart' hl, wpAny_load hl, wpAny_load ht
    refine hl2.here ?_
    wp_walk
    exact ⟨_, rfl, h⟩
theorem list_ne_decl (t l : Addr) (items : Array Value) (n : Nat) (dt : Option Addr) (st : Array (Option Value)) (dd : Option Addr) (sl : Array (Option Value)) {C : Addr} :
    Meets (Builtin.«list.__ne__» ⟨[.ref t, .ref l], []⟩) (fun _ R s => s.heap.get? t = some { cls := .type "list", dict := dt, data := .seq items n, slots := st } ∧ s.heap.get? l = some { cls := .ref C, dict := dd, data := .plain, slots := sl } ∧
      (∀ M : Model, PySem.W.Looks M s.heap (isSubtype (.ref C) (.type "list")) false) ∧ R (.ok (.ret .notImplemented)) s) :=
  .of_wp fun prog w A R s h => by
    obtain ⟨hp, g, d, tk, os⟩ := s; obtain ⟨ht, hl, lk, h⟩ := h
    have hl2 := lk (model prog w)
    wp_walk using wpAny_loadPart' ht, wpAny_loadPart' hl, wpAny_load hl, wpAny_load ht
    refine hl2.here ?_
    wp_walk
    exact ⟨_, rfl, h⟩
section
variable {prog : Program} {w : World} {A : Around} {E : Value → Shared → Prop} {s : Shared} {K : PySem.W.Frag} {x C f : Addr} {ox : Obj} {od : Option Obj}
/-- bool(x) by an own __bool__ -/
theorem bool_own {Q : Value → Shared → Prop} (X : K.In s.heap) (I : PySem.W.InstAt s.heap x ox C od) (hs : PySem.W.findIn K (.ref C) "__bool__" = some (some (.ref f))) (hf : PySem.W.isFn K (.ref f) = true)
    (h : wpAny (model prog w) A.in1.in1 (call (.ref f) [.ref x]) (fun r s₁ => ∃ b, r = Value.bool b ∧ Q r s₁) E s) : wpAny (model prog w) A (call (.type "bool") [.ref x]) Q E s := by
  refine callType_codes (T := "bool") (Bi := Builtin.«object.__init__») (Q₁ := fun r s₁ => ∃ b, r = Value.bool b ∧ Q r s₁) PySem.F.called_bool (PySem.F.typeCall_bool_1 _) PySem.F.entry_object_init ?_ ?_
  · refine codeAny_of_tree ?_
    show wpAny _ A.in1.in1 (do checkBuiltinCall "bool.__new__" ⟨[.type "bool", .ref x], []⟩; again (.builtin "bool.__new__" ⟨[.type "bool", .ref x], []⟩)) _ _ s
    refine wpAny_bind (wpAny_of_eq (PySem.F.newCall_bool_1 _) (wpAny_pure ⟨plainId_quiet (by decide +kernel) _, codeAny_builtin PySem.F.entry_bool_new ?_⟩))
    rw [Around.under_plainId (by decide +kernel) _]
    unfold Builtin.«bool.__new__»
    refine wpAny_bind (wpAny_of_eq (a := true) (by first | exact PySem.W.KFB.type_bool | rfl) ?_)
    refine PySem.W.KFB.if_not rfl ?_
    refine wpAny_bind (wpAny_of_eq (a := true) PySem.F.conv_sub_bool ?_)
    refine PySem.W.KFB.if_not rfl ?_
    refine wpAny_bind (wpAny_of_eq (a := [Value.ref x]) (by rfl) ?_)
    refine wpAny_bind (m := truthy (.ref x)) ?_
    unfold truthy
    refine wpAny_bind (m := callSpecial? (.ref x) (Str.ofString "__bool__")) (PySem.W.special_fn X I hs (beq_iff_eq.mp hf) (wpAny_mono h (fun r s' hr => ?_) fun _ _ y => y))
    obtain ⟨b, rfl, hq⟩ := hr
    exact wpAny_pure (wpAny_pure ⟨b, rfl, hq⟩)
  · rintro obj s₁ ⟨b, rfl, hq⟩
    exact ⟨rfl, PySem.F.args_object_init_2 _ _, object_init_meets PySem.F.called_bool.init.lookup PySem.F.called_bool.made (by decide) prog w A.in1 _ s₁ ⟨rfl, rfl, hq⟩⟩
/-- object.__ne__ by an own __eq__ that answers a bool -/
theorem ifBound_objNe {b : Value} {Q : Option Value → Shared → Prop} (X : K.In s.heap) (I : PySem.W.InstAt s.heap x ox C od) (hn : PySem.W.findIn K (.ref C) "__ne__" = some (some (.builtin "object.__ne__"))) (hm : PySem.W.mroIn K C (.type "object") = some true)
    (hs : PySem.W.findIn K (.ref C) "__eq__" = some (some (.ref f))) (hf : PySem.W.isFn K (.ref f) = true) (hu : A.in1.units < cLine)
    (h : wpAny (model prog w) A.in1 (call (.ref f) [.ref x, b]) (fun v s' => ∃ k, v = .bool k ∧ Q (some (.bool (!k))) s') E s) : wpAny (model prog w) A (callSpecialIfBound? (.ref x) "__ne__" [b]) Q E s := by
  have ent : ∀ {Q : Value → Shared → Prop}, wpAny (model prog w) A.in1 (call (.ref f) [.ref x, b]) (fun v s' => ∃ k, v = .bool k ∧ Q (.bool (!k)) s') E s → wpAny (model prog w) A (call (.builtin "object.__ne__") [.ref x, b]) Q E s := by
    intro Q h
    refine wpAny_call (codeAny_call_builtin F.cmp_object.ne.plain F.cmpEntry_ne (PySem.W.check_slot F.cmpKind_ne F.cmpSplit_ne (I.type.andThen (PySem.W.looks_mroIn X hm)) (F.cmpArgs_ne _ _) ?_))
    unfold Builtin.«object.__ne__»
    refine wpAny_bind (wpAny_of_eq (a := (Value.ref x, [b])) (by rfl) ?_)
    refine wpAny_bind (wpAny_cRoomFor hu ?_)
    refine wpAny_bind (m := callSpecialIfBound? (.ref x) (Str.ofString "__eq__") [b]) (PySem.W.ifBound_K X I hs hf (wpAny_mono h (fun v s' hv => ?_) fun _ _ e => e))
    obtain ⟨k, rfl, hq⟩ := hv
    exact wpAny_bind (wpAny_truthy_bool (wpAny_pure hq))
  simp only [callSpecialIfBound?, bindSpecialIfBound?]
  refine wpAny_holding (wpAny_bind (wpAny_bind (wpAny_bind (I.type.here ((PySem.W.looks_findIn X hn).here ?_)))))
  refine wpAny_bind (wpAny_askSetting (wpAny_ite ?_))
  have fin : wpAny (model prog w) A (call (.builtin "object.__ne__") ([.ref x] ++ [b]) >>= fun v => pure (some v)) Q E s := wpAny_bind (wpAny_mono (ent h) (fun v s' h' => wpAny_pure h') fun _ _ h' => h')
  split
  · exact wpAny_bind (wpAny_of_eq (F.cmp_object.ne.bind _) (wpAny_pure (by exact fin)))
  · exact wpAny_tryCatch (wpAny_bind (wpAny_of_eq (F.cmp_object.ne.bind _) (wpAny_pure (by exact fin))))
theorem try_ne {b : Value} {Q : Value → Shared → Prop} (X : K.In s.heap) (I : PySem.W.InstAt s.heap x ox C od) (hn : PySem.W.findIn K (.ref C) "__ne__" = some (some (.builtin "object.__ne__"))) (hm : PySem.W.mroIn K C (.type "object") = some true)
    (hs : PySem.W.findIn K (.ref C) "__eq__" = some (some (.ref f))) (hf : PySem.W.isFn K (.ref f) = true) (hu : A.in1.units < cLine)
    (h : wpAny (model prog w) A.in1 (call (.ref f) [.ref x, b]) (fun v s' => ∃ k, v = .bool k ∧ Q (.bool (!k)) s') E s) : wpAny (model prog w) A (tryCompare (.ref x) "__ne__" b) (fun r s' => ∃ v, r = some v ∧ Q v s') E s := by
  unfold tryCompare
  refine wpAny_bind (ifBound_objNe X I hn hm hs hf hu (wpAny_mono h (fun v s' hv => ?_) fun _ _ e => e))
  obtain ⟨k, rfl, hq⟩ := hv
  exact ⟨k, rfl, wpAny_pure ⟨_, rfl, hq⟩⟩
/-- x == b, x != b, the method of x is first asked: r what it gives -/
theorem rc_left {op : CmpOp} {b tb : Value} {Q : Value → Shared → Prop} (hu : A.units < cLine) (X : K.In s.heap) (I : PySem.W.InstAt s.heap x ox C od) (hb : PySem.W.Looks (model prog w) s.heap (typeOf b) tb) (hn : PySem.W.notFirst K C tb = true)
    (one : wpAny (model prog w) A (tryCompare (.ref x) (cmpInfo op).2.1 b) (fun r s' => ∃ v, r = some v ∧ Q v s') E s) : wpAny (model prog w) A (richCompare op (.ref x) b) Q E s := by
  unfold richCompare
  simp only [oneThing_ref]
  refine wpAny_holding (wpAny_bind (wpAny_cRoomFor hu ?_))
  refine wpAny_bind (I.type.here (wpAny_bind (hb.here ?_)))
  split
  · rename_i q
    have e : PySem.W.subIn K tb (.ref C) = some false := by
      rcases Bool.or_eq_true_iff.mp hn with e | e
      · rw [beq_iff_eq.mp e] at q; simp at q
      · exact beq_iff_eq.mp e
    refine wpAny_bind ((PySem.W.looks_subIn X e).here ?_)
    simp only [Bool.false_eq_true, if_false]
    refine wpAny_bind (wpAny_mono one (fun r s' z => ?_) fun _ _ e => e)
    obtain ⟨v, rfl, hq⟩ := z
    exact wpAny_pure hq
  · refine wpAny_bind (wpAny_pure ?_)
    simp only [Bool.false_eq_true, if_false]
    refine wpAny_bind (wpAny_mono one (fun r s' z => ?_) fun _ _ e => e)
    obtain ⟨v, rfl, hq⟩ := z
    exact wpAny_pure hq
/-- b == x, b != x, b of a built-in type that declines -/
theorem rc_right {op : CmpOp} {b : Value} {T : String} {Q : Value → Shared → Prop} (hu : A.units < cLine) (X : K.In s.heap) (I : PySem.W.InstAt s.heap x ox C od) (hb : PySem.W.Looks (model prog w) s.heap (typeOf b) (.type T)) (ho : oneThing? op b (.ref x) = none)
    (hn : PySem.W.subIn K (.ref C) (.type T) = some false)
    (zero : ∀ Q' : Option Value → Shared → Prop, Q' none s → wpAny (model prog w) A (tryCompare b (cmpInfo op).2.1 (.ref x)) Q' E s)
    (one : wpAny (model prog w) A (tryCompare (.ref x) (cmpInfo op).2.2 b) (fun r s' => ∃ v, r = some v ∧ Q v s') E s) : wpAny (model prog w) A (richCompare op b (.ref x)) Q E s := by
  unfold richCompare
  simp only [ho]
  refine wpAny_holding (wpAny_bind (wpAny_cRoomFor hu ?_))
  refine wpAny_bind (hb.here (wpAny_bind (I.type.here ?_)))
  rw [show (Value.type T != Value.ref C) = true from by simp]
  simp only [if_true]
  refine wpAny_bind ((PySem.W.looks_subIn X hn).here ?_)
  simp only [Bool.false_eq_true, if_false, Bool.not_false, if_true]
  refine wpAny_bind (zero _ ?_)
  refine wpAny_bind (wpAny_mono one (fun r s' z => ?_) fun _ _ e => e)
  obtain ⟨v, rfl, hq⟩ := z
  exact wpAny_pure hq
end
end DQ

set_option Elab.async false
set_option linter.all false
set_option maxRecDepth 100000
set_option maxHeartbeats 4000000
/-! DL11: types; own operators by what their defs do. -/
namespace DL
open PySem PySem.Spec L2
/-! ### types as numbers -/
def D.tc (bx : List D) : D → Option Nat
  | .non => some 0
  | .bl _ => some 1
  | .int _ => some 2
  | .str _ => some 3
  | .tup _ => some 4
  | .lst _ => some 5
  | .rol _ => some 5
  | .dk _ _ => some 6
  | .dt _ _ => some 6
  | .ins c _ _ => some (10 + c)
  | .box n => match bx[n]? with
    | some (.lst _) => some 5
    | some (.dk _ _) => some 6
    | some (.dt _ _) => some 6
    | some (.ins c _ _) => some (10 + c)
    | _ => none
  | .adr _ => none
  | .ty _ => none
def tcV (CA : Ly) : Nat → Value
  | 0 => .type "NoneType"
  | 1 => .type "bool"
  | 2 => .type "int"
  | 3 => .type "str"
  | 4 => .type "tuple"
  | 5 => .type "list"
  | 6 => .type "dict"
  | n => .ref (CA (n - 10))
def codes (cs : List Nat) : List Nat := [0, 1, 2, 3, 4, 5, 6] ++ cs.map (10 + ·)
structure KC (K : PySem.W.Frag) (C : Addr) : Prop where
  cl : Cls K C
  ca : PySem.W.findIn K (.ref C) "__class__" = some (some (.builtin "object.__class__"))
  cn : PySem.W.specialIn K (.builtin "object.__class__") "__get__" = some (some (.builtin "getset_descriptor.__get__"))
  ct : PySem.W.takesIn K (.builtin "object.__class__") = some true
  cm : PySem.W.mroIn K C (.type "object") = some true
theorem tyT {K : PySem.W.Frag} {H : Hp} {a : Addr} {vs : List V} (h : SqT K H a vs) : TyX K H (.ref a) (.type "tuple") := by
  rcases h with (h | ⟨o, h⟩) | ⟨o, its, n, h, c, _⟩
  · exact .base (.tup h)
  · exact .fTuple h
  · exact .kTuple h c
theorem tyL {K : PySem.W.Frag} {H : Hp} {a : Addr} {vs : List V} (h : SqL K H a vs) : TyX K H (.ref a) (.type "list") := by
  rcases h with (h | ⟨o, h⟩) | ⟨o, its, n, h, c, _⟩
  · exact .base (.lst h)
  · exact .base (.frz h)
  · exact .kList h c
theorem mem_codes {cs : List Nat} {c : Nat} (h : 10 + c ∈ codes cs) : c ∈ cs := by
  unfold codes at h
  rcases List.mem_append.mp h with h | h
  · simp at h; omega
  · obtain ⟨c', h1, h2⟩ := List.mem_map.mp h
    have : c' = c := by omega
    exact this ▸ h1
theorem tcV_own {CA : Ly} {c : Nat} : tcV CA (10 + c) = .ref (CA c) := by
  show tcV CA (10 + c) = _
  rw [show 10 + c = (c + 3) + 7 from by omega]
  show Value.ref (CA ((c + 3) + 7 - 10)) = _
  rw [show (c + 3) + 7 - 10 = c from by omega]
theorem tc_at {K : PySem.W.Frag} {CA : Ly} {F : Addr → Prop} {μ : List Addr} {H : Hp} {bx : List D} {cs : List Nat} {d : D} {v : V} {t : Nat} (hc : ∀ c ∈ cs, KC K (CA c)) (s : Sx K CA F μ H bx) (r : Rp K CA F μ H d v) (e : d.tc bx = some t) (ht : t ∈ codes cs) : TyX K H v (tcV CA t) := by
  have own : ∀ {a dx : Addr} {fs : List (Str × V)} {c : Nat}, H a = some (.ins (CA c) dx fs) → 10 + c ∈ codes cs → TyX K H (.ref a) (tcV CA (10 + c)) := fun {a dx fs c} h hm => by
    have k := hc c (mem_codes hm)
    rw [tcV_own]
    exact .base (.ins h k.cl k.ca k.cn k.ct k.cm)
  cases d with
  | non => cases e; rw [show v = V.non from r]; exact .base .non
  | bl b => cases e; rw [show v = V.bl b from r]; exact .base (.bl b)
  | int i => cases e; rw [show v = V.int i from r]; exact .base (.int i)
  | str x => cases e; rw [show v = V.str x from r]; exact .base (.str x)
  | tup ds => cases e; obtain ⟨a, vs, rfl, q, _⟩ := r; exact tyT q.sq
  | lst ds => cases e; obtain ⟨a, vs, rfl, q, _⟩ := r; exact tyL q.sq
  | rol ds => cases e; obtain ⟨a, vs, rfl, q, _⟩ := r; exact tyL q.sq
  | dk ks ds => cases e; obtain ⟨a, vs, rfl, _, q, _⟩ := r; exact .base (.dK q)
  | dt ks ds => cases e; obtain ⟨a, vs, rfl, _, q, _⟩ := r; exact .base (.dT q)
  | ins c ns ds => cases e; obtain ⟨a, dx, vs, rfl, _, q, _⟩ := r; exact own q ht
  | adr a => cases e
  | ty n => cases e
  | box n =>
    obtain ⟨a, rfl, q2⟩ := r
    unfold D.tc at e
    cases hb : bx[n]? with
    | none => simp only [hb] at e; cases e
    | some d' =>
      have at_ := s.at_ n d' a hb q2
      cases d' <;> simp only [hb] at e <;> first | (cases e; done) | skip
      · obtain ⟨vs, w1, _⟩ := at_; cases e; exact .base (.lst w1)
      · obtain ⟨dx, vs, w1, _⟩ := at_; cases e; exact own w1 ht
      · obtain ⟨vs, w1, _⟩ := at_; cases e; exact .base (.dK w1)
      · obtain ⟨vs, w1, _⟩ := at_; cases e; exact .base (.dT w1)
def tyN (n : String) : Option Nat :=
  if n = "bool" then some 1 else if n = "int" then some 2 else if n = "str" then some 3 else if n = "tuple" then some 4 else if n = "list" then some 5 else if n = "dict" then some 6 else none
def D.cc (CA : Ly) (cs : List Nat) : D → Option Nat
  | .ty n => tyN n
  | .adr a => (cs.find? fun c => decide (CA c = a)).map (10 + ·)
  | _ => none
theorem tyN_at {n : String} {t : Nat} (CA : Ly) (h : tyN n = some t) : tcV CA t = .type n ∧ t ∈ [1, 2, 3, 4, 5, 6] := by
  unfold tyN at h
  repeat' split at h
  all_goals first | (cases h; done) | (cases h; subst_vars; exact ⟨rfl, by decide⟩)
theorem cc_at {K : PySem.W.Frag} {CA : Ly} {F : Addr → Prop} {μ : List Addr} {H : Hp} {cs : List Nat} {d : D} {v : V} {t : Nat} (r : Rp K CA F μ H d v) (e : d.cc CA cs = some t) : ClsV v (tcV CA t) ∧ t ∈ codes cs := by
  cases d with
  | ty n =>
    obtain ⟨h1, h2⟩ := tyN_at CA (show tyN n = some t from e)
    rw [h1, show v = V.ty n from r]
    refine ⟨.ty n, List.mem_append_left _ ?_⟩
    simp at h2 ⊢
    omega
  | adr a =>
    have e' : (cs.find? fun c => decide (CA c = a)).map (10 + ·) = some t := e
    obtain ⟨c, h1, h2⟩ := Option.map_eq_some_iff.mp e'
    have h3 := List.find?_some h1
    have h4 : CA c = a := of_decide_eq_true h3
    subst h2
    rw [tcV_own, h4, show v = V.ref a from r]
    exact ⟨.own a, List.mem_append_right _ (List.mem_map.mpr ⟨c, List.mem_of_find?_eq_some h1, rfl⟩)⟩
  | _ => cases e
section
variable {X : Cx} {CA : Ly} {W : WX} {cs : List Nat}
def isiD (CA : Ly) (cs : List Nat) (tab : Nat → Nat → Bool) : D → D → List D → Out R := fun x t bx => match x.tc bx, t.cc CA cs with
  | some a, some b => if a ∈ codes cs then OK (.bl (tab a b)) bx else .stk
  | _, _ => .stk
theorem dc_isi {tab : Nat → Nat → Bool} (hc : ∀ c ∈ cs, KC X.K (CA c)) (hk : ∀ a ∈ codes cs, ∀ b ∈ codes cs, PySem.W.kitOne X.K (tcV CA a) (tcV CA b) = some (tab a b)) : DCall X CA W (.builtin "isinstance") (un2 (isiD CA cs tab)) :=
  dc2 call_isi fun d v d' v' bx F μ σ H Q s r r' o => by
    unfold isiD at o
    cases q : d.tc bx with
    | none => simp only [q] at o; exact o.elim
    | some a => cases q' : d'.cc CA cs with
      | none => simp only [q, q'] at o; exact o.elim
      | some b =>
        simp only [q, q'] at o
        obtain ⟨ha, o⟩ := okIf o
        obtain ⟨h1, h2⟩ := cc_at (CA := CA) r' q'
        exact ⟨v, v', tcV CA a, tcV CA b, tab a b, rfl, h1, tc_at hc s r q ha, hk a ha b h2, okV o s rfl⟩
/-! ### own defs as operators -/
theorem run_atS {k : Nat} {g : Addr} {sp : Sp} {E : XK} {A : Around} {pins : List (Addr × Obj)} {σ : L2.St} {H : Hp} {s : Shared} {Q : VK} {us : List Value} {ws : List V} (F : FnR X.prog X.w X.K X.mg X.base (L2.CX X.prog X.w) k g sp) (hr : Room k A) (e0 : Env0 X.prog X.w X.K X.mg X.base A X.stack s H)
    (hx : PassesAt (L2.CX X.prog X.w) X σ E) (I : Inv X pins σ H s) (r : Vals ws us) (h : sp ws H Q E) :
    codeAny (model X.prog X.w) A (.call (.ref g) ⟨us, []⟩) (fun r s' => match r with | .ok (.ret v) => EP X pins σ Q v s' | .ok _ => False | .error e => X.xe e s') s := by
  refine codeAny_mono (F A X.stack s H us ws Q E hr e0 r h) fun r s' hq => ?_
  cases r with
  | error e => exact hx pins H s e s' I hq
  | ok fl =>
    cases fl with
    | ret u => exact I.after hq
    | next => exact False.elim hq
    | brk => exact False.elim hq
    | cont => exact False.elim hq
theorem ins_inst {pins : List (Addr × Obj)} {σ : L2.St} {H : Hp} {s : Shared} {a C dx : Addr} {fs : List (Str × V)} (I : Inv X pins σ H s) (e : H a = some (.ins C dx fs)) : ∃ od, PySem.W.InstAt s.heap a (PySem.W.instObj C dx) C (some od) := by
  obtain ⟨mA, O, _⟩ := ins_get I.hok e
  obtain ⟨od, J, _⟩ := O.look
  exact ⟨od, J⟩
/-- what == of the class at C asks -/
structure EqC (K : PySem.W.Frag) (CA : Ly) (cs : List Nat) (C g : Addr) : Prop where
  eq : PySem.W.findIn K (.ref C) "__eq__" = some (some (.ref g))
  fn : PySem.W.isFn K (.ref g) = true
  ne : PySem.W.findIn K (.ref C) "__ne__" = some (some (.builtin "object.__ne__"))
  om : PySem.W.mroIn K C (.type "object") = some true
  nf : ∀ t ∈ codes cs, PySem.W.notFirst K C (tcV CA t) = true
  sb : ∀ t ∈ [0, 1, 2, 3, 4, 5], PySem.W.subIn K (.ref C) (tcV CA t) = some false
def eqC (cs : List Nat) (c : Nat) (mf : MF) : D → D → List D → Out R := fun x y bx => match x.obj bx with
  | some (c', _, _) => (match y.tc bx with
    | some t => if c' = c ∧ t ∈ codes cs then mf [x, y] bx else .stk
    | none => .stk)
  | none => (match x.tc bx, y.obj bx with
    | some t, some (c', _, _) => if t ∈ [0, 1, 2, 3, 4, 5] ∧ c' = c then mf [y, x] bx else .stk
    | _, _ => .stk)
def negO (o : Out R) : Out R := o.bind fun r b => match r with
  | .val (.bl k) => OK (.bl (!k)) b
  | _ => .stk
def neC (cs : List Nat) (c : Nat) (mf : MF) : D → D → List D → Out R := fun x y bx => match x.obj bx with
  | some (c', _, _) => (match y.tc bx with
    | some t => if c' = c ∧ t ∈ codes cs then negO (mf [x, y] bx) else .stk
    | none => .stk)
  | none => (match x.tc bx, y.obj bx with
    | some t, some (c', _, _) => if t ∈ [0, 1, 2, 3, 4, 5] ∧ c' = c then negO (mf [y, x] bx) else .stk
    | _, _ => .stk)
/-- none leaves it -/
def mN (mf : MF) : MF := fun ds bx => noX (mf ds bx)
abbrev E0 : XK := fun _ _ _ => False
theorem pass0' {X : Cx} {σ : L2.St} : PassesAt (L2.CX X.prog X.w) X σ E0 := fun _ _ _ _ _ _ ⟨_, _, _, _, _, _, _, _, _, _, _, _, h⟩ => h.elim
end
section
variable {X : Cx} {CA : Ly} {W : WX} {cs : List Nat} {k c : Nat} {g : Addr} {mf : MF}
theorem Rps.one {K : PySem.W.Frag} {F : Addr → Prop} {μ : List Addr} {H : Hp} {d : D} {v : V} (h : Rp K CA F μ H d v) : Rps K CA F μ H [d] [v] := ⟨h, trivial⟩
theorem Rps.two {K : PySem.W.Frag} {F : Addr → Prop} {μ : List Addr} {H : Hp} {d d' : D} {v v' : V} (h : Rp K CA F μ H d v) (h' : Rp K CA F μ H d' v') : Rps K CA F μ H [d, d'] [v, v'] := ⟨h, h', trivial⟩
/-- what a def without exceptions gives -/
def OkN (K : PySem.W.Frag) (CA : Ly) (F : Addr → Prop) (μ : List Addr) (H : Hp) (o : Out R) (Q : VK) : Prop := OkG K CA W0 F μ [] H (fun F' H' => RRv K CA F' μ H H') (noX o) Q
theorem OkN.of {F : Addr → Prop} {μ : List Addr} {σ : L2.St} {H : Hp} {o : Out R} {Q : VK} (h : OkG X.K CA W F μ σ H (fun F' H' => RRv X.K CA F' μ H H') (noX o) Q) : OkN X.K CA F μ H o Q := by
  unfold OkN
  cases o with
  | ok r b => exact h
  | exn c ns ds b => exact h
  | stk => exact h
theorem OkN.sp {F : Addr → Prop} {μ : List Addr} {H : Hp} {bx ds : List D} {vs : List V} {Q : VK} (s : Sx X.K CA F μ H bx) (r : Rps X.K CA F μ H ds vs) (h : OkN X.K CA F μ H (mf ds bx) Q) : spR X.K CA mf vs H Q E0 := by
  refine ⟨ds, bx, F, μ, r, s, ?_⟩
  unfold OkN at h
  cases q : mf ds bx with
  | ok r b => rw [q] at h; exact h
  | exn c ns ds b => rw [q] at h; exact h.elim
  | stk => rw [q] at h; exact h.elim
/-- the canonical reading of an operation without exceptions -/
def rN (K : PySem.W.Frag) (CA : Ly) (g : D → D → List D → Out R) : R2 := fun x y H Q => ∃ d d' bx F μ, Sx K CA F μ H bx ∧ Rp K CA F μ H d x ∧ Rp K CA F μ H d' y ∧ OkN K CA F μ H (g d d' bx) Q
theorem dop_rN {f : Value → Value → Sem Value} {g : D → D → List D → Out R} (h : OpR X f (rN X.K CA g)) : DOp X CA W f (fun x y bx => noX (g x y bx)) :=
  ⟨_, h, fun x y vx vy bx F μ σ H Q s rx ry o => ⟨x, y, bx, F, μ, s, rx, ry, OkN.of o⟩⟩
/-- a built-in value declines an instance -/
theorem declines {pins : List (Addr × Obj)} {σ : L2.St} {H : Hp} {s : Shared} {A : Around} {E : Value → Shared → Prop} {F : Addr → Prop} {μ : List Addr} {bx : List D} {d : D} {x : V} {u : Value} {t : Nat} {a C : Addr} {dx : Addr} {od : Option Obj} (I : Inv X pins σ H s) (rx : RelV x u)
    (sx : Sx X.K CA F μ H bx) (rp : Rp X.K CA F μ H d x) (ty : d.tc bx = some t) (ht : t ∈ [0, 1, 2, 3, 4, 5]) (J : PySem.W.InstAt s.heap a (PySem.W.instObj C dx) C od) (sb : ∀ t ∈ [0, 1, 2, 3, 4, 5], PySem.W.subIn X.K (.ref C) (tcV CA t) = some false) :
    (∀ Q' : Option Value → Shared → Prop, Q' none s → wpAny (model X.prog X.w) A (tryCompare u (cmpInfo .Eq).2.1 (.ref a)) Q' E s) ∧
    (∀ Q' : Option Value → Shared → Prop, Q' none s → wpAny (model X.prog X.w) A (tryCompare u (cmpInfo .NotEq).2.1 (.ref a)) Q' E s) ∧ oneThing? .Eq u (.ref a) = none ∧ oneThing? .NotEq u (.ref a) = none := by
  have hl : s.heap.get? a = some { cls := .ref C, dict := (PySem.W.instObj C dx).dict, data := .plain, slots := (PySem.W.instObj C dx).slots } := J.1
  have lk : ∀ (T : String), (∃ t ∈ [0, 1, 2, 3, 4, 5], tcV CA t = .type T) → ∀ M : Model, PySem.W.Looks M s.heap (isSubtype (.ref C) (.type T)) false := fun T ⟨t, h1, h2⟩ M => PySem.W.looks_subIn I.kIn (h2 ▸ sb t h1)
  have tup : ∀ {p : Addr} {xs : List V}, SqT X.K H p xs → u = .ref p → (∀ Q' : Option Value → Shared → Prop, Q' none s → wpAny (model X.prog X.w) A (tryCompare u (cmpInfo .Eq).2.1 (.ref a)) Q' E s) ∧
    (∀ Q' : Option Value → Shared → Prop, Q' none s → wpAny (model X.prog X.w) A (tryCompare u (cmpInfo .NotEq).2.1 (.ref a)) Q' E s) ∧ oneThing? .Eq u (.ref a) = none ∧ oneThing? .NotEq u (.ref a) = none := fun {p xs} h eu => by
    subst eu
    obtain ⟨its, r, ⟨o, ho, hc, n, hd⟩, hz⟩ := I.tuple h
    obtain ⟨oc, od', data, sl⟩ := o
    simp only at hc hd
    subst hc hd
    have e1 := fun (M : Model) => lk "tuple" ⟨4, by decide, rfl⟩ M
    exact ⟨fun Q' hq => wpAny_tryCompare_declines ⟨_, ho, rfl⟩ PySem.F.slot_tuple_eq (call_meets PySem.F.slot_tuple_eq ⟨_, ho, rfl⟩ PySem.F.entry_tuple_eq (PySem.F.args_tuple_eq_2 _ _) (DQ.tuple_eq_decl _ _ _ _ _ _ _ _) ⟨ho, hl, e1, rfl, hq⟩),
      fun Q' hq => wpAny_tryCompare_declines ⟨_, ho, rfl⟩ PySem.F.slot_tuple_ne (call_meets PySem.F.slot_tuple_ne ⟨_, ho, rfl⟩ PySem.F.entry_tuple_ne (PySem.F.args_tuple_ne_2 _ _) (DQ.tuple_ne_decl _ _ _ _ _ _ _ _) ⟨ho, hl, e1, rfl, hq⟩), oneThing_ref .., oneThing_ref ..⟩
  have lst : ∀ {p : Addr} {xs : List V}, SqL X.K H p xs → u = .ref p → (∀ Q' : Option Value → Shared → Prop, Q' none s → wpAny (model X.prog X.w) A (tryCompare u (cmpInfo .Eq).2.1 (.ref a)) Q' E s) ∧
    (∀ Q' : Option Value → Shared → Prop, Q' none s → wpAny (model X.prog X.w) A (tryCompare u (cmpInfo .NotEq).2.1 (.ref a)) Q' E s) ∧ oneThing? .Eq u (.ref a) = none ∧ oneThing? .NotEq u (.ref a) = none := fun {p xs} h eu => by
    subst eu
    obtain ⟨its, r, pl, hz⟩ := I.list h
    obtain ⟨o, ho, hc, n, hd⟩ := pl.isList
    obtain ⟨oc, od', data, sl⟩ := o
    simp only at hc hd
    subst hc hd
    have e1 := fun (M : Model) => lk "list" ⟨5, by decide, rfl⟩ M
    exact ⟨fun Q' hq => wpAny_tryCompare_declines ⟨_, ho, rfl⟩ PySem.F.slot_list_eq (call_meets PySem.F.slot_list_eq ⟨_, ho, rfl⟩ PySem.F.entry_list_eq (PySem.F.args_list_eq_2 _ _) (DQ.list_eq_decl _ _ _ _ _ _ _ _) ⟨ho, hl, e1, rfl, hq⟩),
      fun Q' hq => wpAny_tryCompare_declines ⟨_, ho, rfl⟩ PySem.F.slot_list_ne (call_meets PySem.F.slot_list_ne ⟨_, ho, rfl⟩ PySem.F.entry_list_ne (PySem.F.args_list_ne_2 _ _) (DQ.list_ne_decl _ _ _ _ _ _ _ _) ⟨ho, hl, e1, rfl, hq⟩), oneThing_ref .., oneThing_ref ..⟩
  have no : ∀ n : Nat, 6 ≤ n → n ∉ [0, 1, 2, 3, 4, 5] := fun n h z => by simp at z; omega
  cases d with
  | non =>
    cases (show x = V.non from rp)
    cases (show u = Value.none from rx)
    exact ⟨fun Q' hq => wpAny_tryCompare_declines rfl PySem.F.slot_NoneType_eq (call_meets PySem.F.slot_NoneType_eq rfl PySem.F.entry_NoneType_eq (PySem.F.args_NoneType_eq_2 _ _) (DQ.none_eq_decl _) ⟨rfl, hq⟩),
      fun Q' hq => wpAny_tryCompare_declines rfl PySem.F.slot_NoneType_ne (call_meets PySem.F.slot_NoneType_ne rfl PySem.F.entry_NoneType_ne (PySem.F.args_NoneType_ne_2 _ _) (DQ.none_ne_decl _) ⟨rfl, hq⟩), rfl, rfl⟩
  | bl b =>
    cases (show x = V.bl b from rp)
    cases (show u = Value.bool b from rx)
    exact ⟨fun Q' hq => wpAny_tryCompare_declines rfl PySem.F.slot_bool_eq (call_meets PySem.F.slot_bool_eq rfl PySem.F.entry_int_eq (PySem.F.args_int_eq_2 _ _) (DQ.bool_eq_decl _ _ _ _) ⟨hl, rfl, hq⟩),
      fun Q' hq => wpAny_tryCompare_declines rfl PySem.F.slot_bool_ne (call_meets PySem.F.slot_bool_ne rfl PySem.F.entry_int_ne (PySem.F.args_int_ne_2 _ _) (DQ.bool_ne_decl _ _ _ _) ⟨hl, rfl, hq⟩), rfl, rfl⟩
  | int i =>
    cases (show x = V.int i from rp)
    obtain ⟨tk, rfl⟩ := (show ∃ t, u = Value.int i t from rx)
    exact ⟨fun Q' hq => wpAny_tryCompare_declines (typeIs_int _ _ _) PySem.F.slot_int_eq (call_meets PySem.F.slot_int_eq (typeIs_int _ _ _) PySem.F.entry_int_eq (PySem.F.args_int_eq_2 _ _) (DQ.int_eq_decl _ _ _ _ _) ⟨hl, rfl, hq⟩),
      fun Q' hq => wpAny_tryCompare_declines (typeIs_int _ _ _) PySem.F.slot_int_ne (call_meets PySem.F.slot_int_ne (typeIs_int _ _ _) PySem.F.entry_int_ne (PySem.F.args_int_ne_2 _ _) (DQ.int_ne_decl _ _ _ _ _) ⟨hl, rfl, hq⟩), rfl, rfl⟩
  | str y =>
    cases (show x = V.str y from rp)
    obtain ⟨tk, rfl⟩ := (show ∃ t, u = Value.str y t from rx)
    exact ⟨fun Q' hq => wpAny_tryCompare_declines (typeIs_str _ _ _) PySem.F.slot_str_eq (call_meets PySem.F.slot_str_eq (typeIs_str _ _ _) PySem.F.entry_str_eq (PySem.F.args_str_eq_2 _ _) (DQ.str_eq_decl _ _ _ _ _) ⟨hl, rfl, hq⟩),
      fun Q' hq => wpAny_tryCompare_declines (typeIs_str _ _ _) PySem.F.slot_str_ne (call_meets PySem.F.slot_str_ne (typeIs_str _ _ _) PySem.F.entry_str_ne (PySem.F.args_str_ne_2 _ _) (DQ.str_ne_decl _ _ _ _ _) ⟨hl, rfl, hq⟩), rfl, rfl⟩
  | tup ds =>
    obtain ⟨p, vs, rfl, q, _⟩ := rp
    exact tup q.sq rx
  | lst ds =>
    obtain ⟨p, vs, rfl, q, _⟩ := rp
    exact lst q.sq rx
  | rol ds =>
    obtain ⟨p, vs, rfl, q, _⟩ := rp
    exact lst q.sq rx
  | box n =>
    obtain ⟨p, rfl, q2⟩ := rp
    unfold D.tc at ty
    cases hb : bx[n]? with
    | none => simp only [hb] at ty; cases ty
    | some d' =>
      have at_ := sx.at_ n d' p hb q2
      cases d' <;> simp only [hb] at ty <;> first | (cases ty; done) | skip
      · obtain ⟨vs, w1, _⟩ := at_; exact lst (.inl (.inl w1)) rx
      · cases ty; exact absurd ht (no _ (by omega))
      · cases ty; exact absurd ht (no _ (by omega))
      · cases ty; exact absurd ht (no _ (by omega))
  | ins c ns ds => cases ty; exact absurd ht (no _ (by omega))
  | dk ks ds => cases ty; exact absurd ht (no _ (by omega))
  | dt ks ds => cases ty; exact absurd ht (no _ (by omega))
  | adr b => cases ty
  | ty n => cases ty
theorem KitX.looks {pins : List (Addr × Obj)} {σ : L2.St} {H : Hp} {s : Shared} {x : V} {u t : Value} (I : Inv X pins σ H s) (rx : RelV x u) (ty : TyX X.K H x t) (M : Model) : PySem.W.Looks M s.heap (typeOf u) t := by
  obtain ⟨P, Z, p, _⟩ := kit_of I rx ty
  exact Z.ty M s.heap I.kIn p
theorem negO_ok {F : Addr → Prop} {μ : List Addr} {H : Hp} {o : Out R} {Q : VK} (h : OkN X.K CA F μ H (negO o) Q) : OkN X.K CA F μ H o (fun z H' => ∃ k, z = .bl k ∧ Q (.bl (!k)) H') := by
  unfold OkN at *
  cases o with
  | stk => exact h
  | exn c ns ds b => exact h
  | ok r b =>
    cases r with
    | new d => exact h.elim
    | val d => cases d with
      | bl k => exact fun v F' H' e s rr => ⟨k, rr, h (.bl (!k)) F' H' e s rfl⟩
      | _ => exact h.elim
theorem op_eqC (hc : ∀ c ∈ cs, KC X.K (CA c)) (e : EqC X.K CA cs (CA c) g) (F : FnR X.prog X.w X.K X.mg X.base (L2.CX X.prog X.w) k g (spR X.K CA mf)) (hr : Room k X.A) : OpR X (compareOp .Eq) (rN X.K CA (eqC cs c mf)) := by
  intro pins s σ H x y v u Q I rx ry ⟨d, d', bx, FF, μ, sx, rd, rd', o⟩
  show wpAny _ _ (richCompare .Eq v u) _ _ _
  unfold eqC at o
  cases q : d.obj bx with
  | some t =>
    obtain ⟨c', ns, ds⟩ := t
    simp only [q] at o
    cases q2 : d'.tc bx with
    | none => simp only [q2] at o; exact o.elim
    | some t =>
      simp only [q2] at o
      by_cases hh : c' = c ∧ t ∈ codes cs
      · rw [if_pos hh] at o
        obtain ⟨rfl, ht⟩ := hh
        obtain ⟨a, dx, vs, h1, h2, h3, h4⟩ := obj_at sx rd q
        subst h1
        obtain rfl : v = Value.ref a := rx
        obtain ⟨od, J⟩ := ins_inst I h2
        refine DQ.rc_left hr.units0 I.kIn J (KitX.looks I ry (tc_at hc sx rd' q2 ht) _) (e.nf t ht) ?_
        unfold tryCompare
        refine wpAny_bind (PySem.W.ifBound_K I.kIn J e.eq e.fn (wpAny_mono (wpAny_call (run_atS (us := [.ref a, u]) (ws := [.ref a, y]) F hr I.env0 pass0' I (.cons rfl (.cons ry .nil)) (OkN.sp sx (Rps.two rd rd') o))) (fun w' s' hv => ?_) fun _ _ e => e))
        obtain ⟨z, H', I', rz, qz⟩ := hv
        have := SlX.cmpback (P := fun v s' => ∃ v', some v = some v' ∧ EP X pins σ Q v' s') rz ⟨w', rfl, z, H', I', rz, qz⟩
        cases w' <;> first | exact this.elim | exact wpAny_pure this
      · rw [if_neg hh] at o; exact o.elim
  | none =>
    simp only [q] at o
    cases q1 : d.tc bx with
    | none => simp only [q1] at o; exact o.elim
    | some t => cases q2 : d'.obj bx with
      | none => simp only [q1, q2] at o; exact o.elim
      | some t' =>
        obtain ⟨c', ns, ds⟩ := t'
        simp only [q1, q2] at o
        by_cases hh : t ∈ [0, 1, 2, 3, 4, 5] ∧ c' = c
        · rw [if_pos hh] at o
          obtain ⟨ht, rfl⟩ := hh
          obtain ⟨a, dx, vs, h1, h2, h3, h4⟩ := obj_at sx rd' q2
          subst h1
          obtain rfl : u = Value.ref a := ry
          obtain ⟨od, J⟩ := ins_inst I h2
          have htc : t ∈ codes cs := List.mem_append_left _ (by simp at ht ⊢; omega)
          obtain ⟨z1, z2, z3, z4⟩ := declines (A := X.A) (E := X.xe) I rx sx rd q1 ht J e.sb
          have hT : ∃ T, tcV CA t = .type T := by simp at ht; rcases ht with rfl | rfl | rfl | rfl | rfl | rfl <;> exact ⟨_, rfl⟩
          obtain ⟨T, hT⟩ := hT
          have tyx := KitX.looks I rx (tc_at hc sx rd q1 htc) (model X.prog X.w)
          rw [hT] at tyx
          refine DQ.rc_right hr.units0 I.kIn J tyx z3 (hT ▸ e.sb t ht) z1 ?_
          unfold tryCompare
          refine wpAny_bind (PySem.W.ifBound_K I.kIn J e.eq e.fn (wpAny_mono (wpAny_call (run_atS (us := [.ref a, v]) (ws := [.ref a, x]) F hr I.env0 pass0' I (.cons rfl (.cons rx .nil)) (OkN.sp sx (Rps.two rd' rd) o))) (fun w' s' hv => ?_) fun _ _ e => e))
          obtain ⟨z, H', I', rz, qz⟩ := hv
          have := SlX.cmpback (P := fun v s' => ∃ v', some v = some v' ∧ EP X pins σ Q v' s') rz ⟨w', rfl, z, H', I', rz, qz⟩
          cases w' <;> first | exact this.elim | exact wpAny_pure this
        · rw [if_neg hh] at o; exact o.elim
theorem op_neC (hc : ∀ c ∈ cs, KC X.K (CA c)) (e : EqC X.K CA cs (CA c) g) (F : FnR X.prog X.w X.K X.mg X.base (L2.CX X.prog X.w) k g (spR X.K CA mf)) (hr : Room (k + 1) X.A) : OpR X (compareOp .NotEq) (rN X.K CA (neC cs c mf)) := by
  intro pins s σ H x y v u Q I rx ry ⟨d, d', bx, FF, μ, sx, rd, rd', o⟩
  show wpAny _ _ (richCompare .NotEq v u) _ _ _
  have hr1 : Room k X.A.in1 := Room.in1 hr
  unfold neC at o
  cases q : d.obj bx with
  | some t =>
    obtain ⟨c', ns, ds⟩ := t
    simp only [q] at o
    cases q2 : d'.tc bx with
    | none => simp only [q2] at o; exact o.elim
    | some t =>
      simp only [q2] at o
      by_cases hh : c' = c ∧ t ∈ codes cs
      · rw [if_pos hh] at o
        obtain ⟨rfl, ht⟩ := hh
        obtain ⟨a, dx, vs, h1, h2, h3, h4⟩ := obj_at sx rd q
        subst h1
        obtain rfl : v = Value.ref a := rx
        obtain ⟨od, J⟩ := ins_inst I h2
        refine DQ.rc_left hr.units0 I.kIn J (KitX.looks I ry (tc_at hc sx rd' q2 ht) _) (e.nf t ht) ?_
        refine DQ.try_ne I.kIn J e.ne e.om e.eq e.fn hr1.units0 (wpAny_mono (wpAny_call (run_atS (us := [.ref a, u]) (ws := [.ref a, y]) F hr1 I.env0.in1 pass0' I (.cons rfl (.cons ry .nil)) (OkN.sp sx (Rps.two rd rd') (negO_ok o)))) (fun w' s' hv => ?_) fun _ _ e => e)
        obtain ⟨z, H', I', rz, k', ez, qz⟩ := hv
        subst ez
        exact ⟨k', rz, .bl (!k'), H', I', rfl, qz⟩
      · rw [if_neg hh] at o; exact o.elim
  | none =>
    simp only [q] at o
    cases q1 : d.tc bx with
    | none => simp only [q1] at o; exact o.elim
    | some t => cases q2 : d'.obj bx with
      | none => simp only [q1, q2] at o; exact o.elim
      | some t' =>
        obtain ⟨c', ns, ds⟩ := t'
        simp only [q1, q2] at o
        by_cases hh : t ∈ [0, 1, 2, 3, 4, 5] ∧ c' = c
        · rw [if_pos hh] at o
          obtain ⟨ht, rfl⟩ := hh
          obtain ⟨a, dx, vs, h1, h2, h3, h4⟩ := obj_at sx rd' q2
          subst h1
          obtain rfl : u = Value.ref a := ry
          obtain ⟨od, J⟩ := ins_inst I h2
          have htc : t ∈ codes cs := List.mem_append_left _ (by simp at ht ⊢; omega)
          obtain ⟨z1, z2, z3, z4⟩ := declines (A := X.A) (E := X.xe) I rx sx rd q1 ht J e.sb
          have hT : ∃ T, tcV CA t = .type T := by simp at ht; rcases ht with rfl | rfl | rfl | rfl | rfl | rfl <;> exact ⟨_, rfl⟩
          obtain ⟨T, hT⟩ := hT
          have tyx := KitX.looks I rx (tc_at hc sx rd q1 htc) (model X.prog X.w)
          rw [hT] at tyx
          refine DQ.rc_right hr.units0 I.kIn J tyx z4 (hT ▸ e.sb t ht) z2 ?_
          refine DQ.try_ne I.kIn J e.ne e.om e.eq e.fn hr1.units0 (wpAny_mono (wpAny_call (run_atS (us := [.ref a, v]) (ws := [.ref a, x]) F hr1 I.env0.in1 pass0' I (.cons rfl (.cons rx .nil)) (OkN.sp sx (Rps.two rd' rd) (negO_ok o)))) (fun w' s' hv => ?_) fun _ _ e => e)
          obtain ⟨z, H', I', rz, k', ez, qz⟩ := hv
          subst ez
          exact ⟨k', rz, .bl (!k'), H', I', rfl, qz⟩
        · rw [if_neg hh] at o; exact o.elim
theorem dop_eqC (hc : ∀ c ∈ cs, KC X.K (CA c)) (e : EqC X.K CA cs (CA c) g) (F : FnR X.prog X.w X.K X.mg X.base (L2.CX X.prog X.w) k g (spR X.K CA mf)) (hr : Room k X.A) : DOp X CA W (compareOp .Eq) (fun x y bx => noX (eqC cs c mf x y bx)) := dop_rN (op_eqC hc e F hr)
theorem dop_neC (hc : ∀ c ∈ cs, KC X.K (CA c)) (e : EqC X.K CA cs (CA c) g) (F : FnR X.prog X.w X.K X.mg X.base (L2.CX X.prog X.w) k g (spR X.K CA mf)) (hr : Room (k + 1) X.A) : DOp X CA W (compareOp .NotEq) (fun x y bx => noX (neC cs c mf x y bx)) := dop_rN (op_neC hc e F hr)
/-! ### binary operators, in, bool -/
def binC (c : Nat) (mf : MF) : D → D → List D → Out R := fun x y bx => match x.obj bx, y.obj bx with
  | some (c1, _, _), some (c2, _, _) => if c1 = c ∧ c2 = c then mf [x, y] bx else .stk
  | _, _ => .stk
theorem dop_binC {op : Operator} (hs : PySem.W.selfFirst X.K (CA c) = true) (hf : PySem.W.findIn X.K (.ref (CA c)) (PySem.dunder op.info.2) = some (some (.ref g))) (fn : PySem.W.isFn X.K (.ref g) = true) (F : FnR X.prog X.w X.K X.mg X.base (L2.CX X.prog X.w) k g (spR X.K CA mf)) (hr : Room k X.A) :
    DOp X CA W (binaryOp op) (fun x y bx => noX (binC c mf x y bx)) := by
  refine dop_rN ?_
  intro pins s σ H x y v u Q I rx ry ⟨d, d', bx, FF, μ, sx, rd, rd', o⟩
  unfold binC at o
  cases q : d.obj bx with
  | none => simp only [q] at o; exact o.elim
  | some t =>
    obtain ⟨c1, ns, ds⟩ := t
    cases q2 : d'.obj bx with
    | none => simp only [q, q2] at o; exact o.elim
    | some t =>
      obtain ⟨c2, ns2, ds2⟩ := t
      simp only [q, q2] at o
      by_cases hh : c1 = c ∧ c2 = c
      · rw [if_pos hh] at o
        obtain ⟨rfl, rfl⟩ := hh
        obtain ⟨a, dx, vs, h1, h2, _⟩ := obj_at sx rd q
        obtain ⟨b, dy, ws, h1', h2', _⟩ := obj_at sx rd' q2
        subst h1 h1'
        obtain rfl : v = Value.ref a := rx
        obtain rfl : u = Value.ref b := ry
        obtain ⟨od, J⟩ := ins_inst I h2
        obtain ⟨od', J'⟩ := ins_inst I h2'
        obtain ⟨m, hF⟩ := I.fr
        refine PySem.W.binop_K hF I.ok.mod.kin J J'.type hs hf fn (wpAny_mono (wpAny_call (run_atS (us := [.ref a, .ref b]) (ws := [.ref a, .ref b]) F hr I.env0 pass0' I (.cons rfl (.cons rfl .nil)) (OkN.sp sx (Rps.two rd rd') o))) (fun w' s' hv => ?_) fun _ _ e => e)
        obtain ⟨z, H', I', rz, qz⟩ := hv
        exact SlX.cmpback rz ⟨z, H', I', rz, qz⟩
      · rw [if_neg hh] at o; exact o.elim
def posO (o : Out R) : Out R := o.bind fun r b => match r with
  | .val (.bl k) => OK (.bl k) b
  | _ => .stk
theorem posO_ok {F : Addr → Prop} {μ : List Addr} {H : Hp} {o : Out R} {Q : VK} (h : OkN X.K CA F μ H (posO o) Q) : OkN X.K CA F μ H o (fun z H' => ∃ k, z = .bl k ∧ Q (.bl k) H') := by
  unfold OkN at *
  cases o with
  | stk => exact h
  | exn c ns ds b => exact h
  | ok r b =>
    cases r with
    | new d => exact h.elim
    | val d => cases d with
      | bl k => exact fun v F' H' e s rr => ⟨k, rr, h (.bl k) F' H' e s rfl⟩
      | _ => exact h.elim
def inC (c : Nat) (mf : MF) (f : Out R → Out R) : D → D → List D → Out R := fun x y bx => match y.obj bx with
  | some (c1, _, _) => if c1 = c then f (mf [y, x] bx) else .stk
  | none => .stk
theorem dop_inC (hf : PySem.W.findIn X.K (.ref (CA c)) "__contains__" = some (some (.ref g))) (fn : PySem.W.isFn X.K (.ref g) = true) (F : FnR X.prog X.w X.K X.mg X.base (L2.CX X.prog X.w) k g (spR X.K CA mf)) (hr : Room k X.A) :
    DOp X CA W (compareOp .In) (fun x y bx => noX (inC c mf posO x y bx)) := by
  refine dop_rN ?_
  intro pins s σ H x y v u Q I rx ry ⟨d, d', bx, FF, μ, sx, rd, rd', o⟩
  unfold inC at o
  cases q2 : d'.obj bx with
  | none => simp only [q2] at o; exact o.elim
  | some t =>
    obtain ⟨c2, ns2, ds2⟩ := t
    simp only [q2] at o
    by_cases hh : c2 = c
    · rw [if_pos hh] at o
      subst hh
      obtain ⟨b, dy, ws, h1', h2', _⟩ := obj_at sx rd' q2
      subst h1'
      obtain rfl : u = Value.ref b := ry
      obtain ⟨od', J'⟩ := ins_inst I h2'
      obtain ⟨m, hF⟩ := I.fr
      refine PySem.W.in_K hF I.ok.mod.kin J' hf fn (wpAny_mono (wpAny_call (run_atS (us := [.ref b, v]) (ws := [.ref b, x]) F hr I.env0 pass0' I (.cons rfl (.cons rx .nil)) (OkN.sp sx (Rps.two rd' rd) (posO_ok o)))) (fun w' s' hv => ?_) fun _ _ e => e)
      obtain ⟨z, H', I', rz, k', ez, qz⟩ := hv
      subst ez
      cases rz
      exact wpAny_truthy_bool ⟨.bl k', H', I', rfl, qz⟩
    · rw [if_neg hh] at o; exact o.elim
theorem dop_notInC (hf : PySem.W.findIn X.K (.ref (CA c)) "__contains__" = some (some (.ref g))) (fn : PySem.W.isFn X.K (.ref g) = true) (F : FnR X.prog X.w X.K X.mg X.base (L2.CX X.prog X.w) k g (spR X.K CA mf)) (hr : Room k X.A) :
    DOp X CA W (compareOp .NotIn) (fun x y bx => noX (inC c mf negO x y bx)) := by
  refine dop_rN ?_
  intro pins s σ H x y v u Q I rx ry ⟨d, d', bx, FF, μ, sx, rd, rd', o⟩
  unfold inC at o
  cases q2 : d'.obj bx with
  | none => simp only [q2] at o; exact o.elim
  | some t =>
    obtain ⟨c2, ns2, ds2⟩ := t
    simp only [q2] at o
    by_cases hh : c2 = c
    · rw [if_pos hh] at o
      subst hh
      obtain ⟨b, dy, ws, h1', h2', _⟩ := obj_at sx rd' q2
      subst h1'
      obtain rfl : u = Value.ref b := ry
      obtain ⟨od', J'⟩ := ins_inst I h2'
      obtain ⟨m, hF⟩ := I.fr
      refine PySem.W.notIn_K hF I.ok.mod.kin J' hf fn (wpAny_mono (wpAny_call (run_atS (us := [.ref b, v]) (ws := [.ref b, x]) F hr I.env0 pass0' I (.cons rfl (.cons rx .nil)) (OkN.sp sx (Rps.two rd' rd) (negO_ok o)))) (fun w' s' hv => ?_) fun _ _ e => e)
      obtain ⟨z, H', I', rz, k', ez, qz⟩ := hv
      subst ez
      cases rz
      exact wpAny_truthy_bool ⟨.bl (!k'), H', I', rfl, qz⟩
    · rw [if_neg hh] at o; exact o.elim
/-- bool(x), x of the class c -/
def boolC (c : Nat) (mf : MF) : D → List D → Out R := fun x bx => match x.obj bx with
  | some (c1, _, _) => if c1 = c then posO (mf [x] bx) else .stk
  | none => .stk
theorem dc_boolC (hf : PySem.W.findIn X.K (.ref (CA c)) "__bool__" = some (some (.ref g))) (fn : PySem.W.isFn X.K (.ref g) = true) (F : FnR X.prog X.w X.K X.mg X.base (L2.CX X.prog X.w) k g (spR X.K CA mf)) (hr : Room (k + 2) X.A) :
    DCall X CA W (.type "bool") (un1 fun x bx => noX (boolC c mf x bx)) := by
  refine dc1 (r := fun vs H Q => ∃ v d bx FF μ, vs = [v] ∧ Sx X.K CA FF μ H bx ∧ Rp X.K CA FF μ H d v ∧ OkN X.K CA FF μ H (boolC c mf d bx) Q) ?_ fun d v bx F μ σ H Q s r o => ⟨v, d, bx, F, μ, rfl, s, r, OkN.of o⟩
  intro pins s σ H xs us Q I rs ⟨v, d, bx, FF, μ, ev, sx, rd, o⟩
  subst ev
  obtain ⟨u, rfl, ru⟩ := rs.one
  unfold boolC at o
  cases q : d.obj bx with
  | none => simp only [q] at o; exact o.elim
  | some t =>
    obtain ⟨c1, ns, ds⟩ := t
    simp only [q] at o
    by_cases hh : c1 = c
    · rw [if_pos hh] at o
      subst hh
      obtain ⟨a, dx, vs, h1, h2, _⟩ := obj_at sx rd q
      subst h1
      obtain rfl : u = Value.ref a := ru
      obtain ⟨od, J⟩ := ins_inst I h2
      have hr2 : Room k X.A.in1.in1 := (show Room (k + 1) X.A.in1 from Room.in1 hr).in1
      refine DQ.bool_own I.kIn J hf fn (wpAny_mono (wpAny_call (run_atS (us := [.ref a]) (ws := [.ref a]) F hr2 I.env0.in1.in1 pass0' I (.cons rfl .nil) (OkN.sp sx (Rps.one rd) (posO_ok o)))) (fun w' s' hv => ?_) fun _ _ e => e)
      obtain ⟨z, H', I', rz, k', ez, qz⟩ := hv
      subst ez
      exact ⟨k', rz, .bl k', H', I', rz, qz⟩
    · rw [if_neg hh] at o; exact o.elim
end
end DL

set_option Elab.async false
set_option linter.all false
set_option maxRecDepth 100000
set_option maxHeartbeats 4000000
/-! DL12: sorted by a written key, over lists and tuples: the kit's level. -/
namespace DQ
open PySem PySem.W PySem.Calls PyProof.Rows
section
variable {prog : Program} {w : World} {A : Around} {E : Value → Shared → Prop} {s : Shared} {vs : List Value}
/-- a list or a tuple -/
def SeqAt (h : Heap) (l : Addr) (vs : List Value) : Prop := ∃ o n, h.get? l = some o ∧ (o.cls = .type "list" ∨ o.cls = .type "tuple") ∧ o.data = .seq vs.toArray n
theorem collect_seq {l : Addr} {Q : List Value → Shared → Prop} (q : SeqAt s.heap l vs) (hsz : vs.length ≤ sizeLine)
    (h : Q vs { s with heap := (s.heap.push (seqObj "list" #[] 0)).update s.heap.objs.size (Obj.mapSeq (· ++ vs.toArray)) }) : wpAny (model prog w) A (collect (.ref l)) Q E s := by
  obtain ⟨o, n, ho, hc, hd⟩ := q
  unfold collect
  have new0 : (s.heap.push (seqObj "list" #[] 0)).get? s.heap.objs.size = some (seqObj "list" #[] 0) := Heap.get?_push_size _ rfl
  have old : (s.heap.push (seqObj "list" #[] 0)).get? l = some o := Heap.get?_push_of_some _ ho
  have fin : wpAny (model prog w) A (do
      let o ← load s.heap.objs.size
      match o.data with
      | .seq xs _ => pure xs.toList
      | _ => unsupported "internal:collect") Q E
        { s with heap := (s.heap.push (seqObj "list" #[] 0)).update s.heap.objs.size (Obj.mapSeq (· ++ vs.toArray)) } := by
    refine wpAny_bind (wpAny_load (get?_update_seq new0 _) ?_)
    show wpAny _ _ (pure ((#[] : Array Value) ++ vs.toArray).toList) Q E _
    have e : ((#[] : Array Value) ++ vs.toArray).toList = vs := by simp
    rw [e]
    exact wpAny_pure h
  refine wpAny_bind (wpAny_runValue (codeAny_builtin entry_proto_collect' ?_))
  show wpAny _ _ (do again (.builtin "list.__iadd__" ⟨[← newList [], .ref l], []⟩)) _ _ s
  refine wpAny_bind (wpAny_newList (wpAny_pure ⟨Code.quiet_builtin _ (by decide +kernel), codeAny_builtin entry_list_iadd' ?_⟩))
  show wpAny _ _ (Builtin.List.listExtendWith (.ref s.heap.objs.size) (.ref l) (.ref s.heap.objs.size)) _ _
    { s with heap := s.heap.push (seqObj "list" #[] 0) }
  unfold Builtin.List.listExtendWith
  have tail : ∀ {P : PySem.Fin → Shared → Prop} {E' : Value → Shared → Prop}, P (.done (.ret (.ref s.heap.objs.size))) { s with heap := (s.heap.push (seqObj "list" #[] 0)).update s.heap.objs.size (Obj.mapSeq (· ++ vs.toArray)) } →
      wpAny (model prog w) A.in1 (do
        let xs ← Builtin.List.listItems (.ref l)
        let mine ← Builtin.List.listItems (.ref s.heap.objs.size)
        if !mine.isEmpty && Builtin.List.listTooLong (mine.size + xs.size) then unsupported "list.extend:memory"
        Builtin.List.listUpdate (.ref s.heap.objs.size) (· ++ xs)
        return ← ret (.ref s.heap.objs.size)) P E' { s with heap := s.heap.push (seqObj "list" #[] 0) } := by
    intro P E' hP
    refine wpAny_bind (listItems_at old hd ?_)
    refine wpAny_bind (listItems_at new0 rfl ?_)
    rw [if_neg (by simp)]
    refine wpAny_bind (listUpdate_at new0 rfl ?_ (Nat.zero_le _) ?_)
    · exact wpAny_pure hP
    · have e : ((#[] : Array Value) ++ vs.toArray).size = vs.length := by simp
      rw [e]
      exact Nat.le_succ_of_le hsz
  rcases hc with hc | hc
  · refine wpAny_bind (wpAny_typeOf (T := "list") ⟨o, old, hc⟩ ?_)
    have ht : (Value.type "list" == Value.type "list") = true := by rfl
    rw [if_pos (by rw [ht]; simp)]
    exact tail fin
  · refine wpAny_bind (wpAny_typeOf (T := "tuple") ⟨o, old, hc⟩ ?_)
    have ht : (Value.type "tuple" == Value.type "tuple") = true := by rfl
    rw [if_pos (by rw [ht]; simp)]
    exact tail fin
/-- sorted(xs, key=f), xs a list or a tuple; f keeps what is there and gives data -/
theorem sorted_seq_key {β : Type} {bs : List β} {R : Value → β → Prop} {l : Addr} {f : Addr} {Q : Value → Shared → Prop} (k : β → PyData) (q : SeqAt s.heap l vs) (e : EachIs R vs bs)
    (hal : AllAlike (bs.map k)) (hk : Sortable (bs.map k)) (hL : bs.length ≤ sizeLine) (hu : ∀ x, x ∈ bs → A.units + 2 + (k x).depth < cLine)
    (turn : ∀ (v : Value) (x : β), R v x → ∀ (g : Heap) (tk : Nat), (∀ b o, s.heap.get? b = some o → g.get? b = some o) →
      wpAny (model prog w) A.in1.in1 (call (.ref f) [v]) (KeyPure (k x) { s with heap := g, toks := tk }) (fun _ _ => False) { s with heap := g, toks := tk })
    (h : ∀ out c g tk, (∀ b o, s.heap.get? b = some o → g.get? b = some o) → g.get? (s.heap.objs.size + 1) = some (seqObj "list" (List.toArray out) c) → EachIs R out (bs.mergeSort (dataLe false k)) →
      Q (.ref (s.heap.objs.size + 1)) { s with heap := g, toks := tk }) :
    wpAny (model prog w) A (call (.builtin "sorted") [.ref l] [(Str.ofString "key", .ref f)]) Q E s := by
  have hL' : vs.length ≤ sizeLine := by rw [e.length]; exact hL
  have up : ∀ {g : Heap}, KeepsBut (s.heap.objs.size + 1) (copyHeap s.heap vs) g → ∀ b o, s.heap.get? b = some o → g.get? b = some o := fun {g} kp b o z => by
    have n : b ≠ s.heap.objs.size + 1 := Nat.ne_of_lt (Nat.lt_succ_of_lt (Heap.lt_size z))
    exact kp b o n (copyHeap_old z)
  have ll : (bs.map k).length = vs.length := by simp [e.length]
  refine call_function_entry_kw kind_sorted plain_sorted entry_sorted (ksk_s1 _ _) ?_
  unfold Builtin.«sorted»
  refine wpAny_bind (m := checkCount "sorted" 1 1 _) (wpAny_pure ?_)
  refine wpAny_bind (collect_seq q hL' ?_)
  refine wpAny_bind (wpAny_newList ?_ hL')
  have z1 : ((s.heap.push (seqObj "list" #[] 0)).update s.heap.objs.size (Obj.mapSeq (· ++ vs.toArray))).objs.size = s.heap.objs.size + 1 := by simp [Heap.size_update, size_push']
  show wpAny _ _ _ _ _ { s with heap := copyHeap s.heap vs }
  rw [z1]
  refine wpAny_bind (wpAny_holding (wpAny_call_entry_kw slot_list_sort ⟨_, copyHeap_at s.heap vs, rfl⟩ entry_list_sort ?_ (ksk_l1 _ _)))
  show wpAny (model prog w) A.in1.in1 (Builtin.«list.sort» ⟨[.ref (s.heap.objs.size + 1)], [(Str.ofString "key", .ref f)]⟩) _ _ _
  rw [ksk_t1]
  refine keyH_tree (s := { s with heap := copyHeap s.heap vs }) (kz := bs.map k) (copyHeap_at s.heap vs) ll hL' hal hk (bound_map (A := A.in1.in1) hu)
    (keyH_turns (s := { s with heap := copyHeap s.heap vs }) e fun v x hR _ g tk kp => turn v x hR g tk (up kp)) fun g tk out c kp hD ko => ⟨.none, rfl, ?_⟩
  exact wpAny_pure ⟨_, rfl, h out c g tk (up kp) hD (keyedOut_each k ko e)⟩
end
/-! ### a lambda of one name, called -/
section
variable {prog : Program} {w : World} {A : Around} {s : Shared}
theorem lam_turn {f c' : Addr} {name qual x : Str} {params : Arguments} {body : Expr} {scope : Scope} {cl : List (Str × Addr)} {pm ctv v : Value} {k : PyData}
    (hof : s.heap.get? f = some (kla_obj name qual params body scope cl pm c' ctv)) (hcd : s.heap.CodeRec (.ref c') qual) (hnl : s.heap.NoLimit) (hroom : A.depth < recursionLimit)
    (hbind : bindArgs (kla_fn name qual params body scope cl pm (.ref c') ctv) ⟨[v], []⟩ = pure [(x, v)])
    (hx : scope.names.lookup x = some .local) (hco : scope.isCoroutine = false) (hgen : scope.isGenerator = false) (hk : scope.kind = .function) (hcell : ∀ y ∈ scope.names, y.2 ≠ .cell)
    (hbody : ∀ (L : Addr) (g : Heap) (tk : Nat), (∀ b o, s.heap.get? b = some o → g.get? b = some o) → g.Ns L (fun y => [(x, v)].reverse.lookup y) →
      wpAny (model prog w) (A.deeper (envX qual scope L f (.ref c') cl)) (eval body (envX qual scope L f (.ref c') cl)) (KeyPure k { s with heap := g, toks := tk }) (fun _ _ => False) { s with heap := g, toks := tk }) :
    wpAny (model prog w) A (call (.ref f) [v]) (KeyPure k s) (fun _ _ => False) s := by
  refine wpAny_call (kla_callFunE hroom hof rfl hco hgen rfl hcd ?_)
  rw [hbind]
  refine wpAny_pure (wpAny_newFunctionEnv hcell (fun y hy => ?_) (fun g hns hsb => ⟨hnl.fresh _ hsb, ?_⟩) hk)
  · obtain rfl : y = (x, v) := by simpa using hy
    exact hx
  · show codeAny _ _ (.expr body (envX qual scope s.heap.objs.size f (.ref c') cl)) _ _
    have kp : ∀ b o, s.heap.get? b = some o → g.get? b = some o := fun b o z => by
      have n : b ≠ s.heap.objs.size := Nat.ne_of_lt (Heap.lt_size z)
      exact hsb.extBut b o n (Heap.get?_push_of_some _ z)
    refine kla_codeExpr (wpAny_mono (hbody _ g _ kp hns) (fun u s' hq => ?_) fun _ _ z => z.elim)
    obtain ⟨g', tk', rfl, k', r⟩ := hq
    exact ⟨g', tk', rfl, fun b o z => k' b o (kp b o z), r⟩
end
end DQ
namespace DQ
open PySem PySem.W PySem.Calls PyProof.Rows
/-! ### the key (x[0] is not None, x[0] or 0) -/
/-- None or an int -/
def oi : Option Int → Value → Prop
  | none, v => v = .none
  | some i, v => ∃ t, v = .int i t
def lowKey (o : Option Int) : PyData := .tuple [.bool o.isSome, .int (o.getD 0)]
section
variable {prog : Program} {w : World} {A : Around} {s : Shared} {env : Env} {x : Str} {m : Str → Option Value} {t : Addr} {v0 v1 : Value} {E : Value → Shared → Prop}
theorem fst_item {p1 p2 p3 : Pos} {j : Nat} {Q : Value → Shared → Prop} (hk : env.scope.kind = .function) (hl : env.kindOf x = some .local) (hns : s.heap.Ns env.locals m) (hm : m x = some (.ref t)) (hd : (x == ("__debug__" : Str)) = false)
    (ht : IsTup s.heap t #[v0, v1]) (h : Q v0 { s with toks := s.toks + 1 }) :
    wpAny (model prog w) A (eval (.Subscript (.Name x p1) (.Constant (.int 0) j p2) p3) env) Q E s := by
  refine wpAny_Subscript_Constant_late (wpAny_Name (wpAny_loadName_local hk hl hns hm (wpAny_Constant_int ?_)) hd)
  exact ⟨"tuple", "tuple.__getitem__", slot_tuple_getitem.lookup, ht.typeIs, getItem_tuple (s := { s with toks := s.toks + 1 }) ht (by decide) (by decide) rfl rfl h⟩
theorem low_key {o : Option Int} {p1 p2 p3 p4 p5 p6 p7 p8 p9 pa pb : Pos} {j1 j2 j3 j4 kk : Nat} (hk : env.scope.kind = .function) (hl : env.kindOf x = some .local) (hns : s.heap.Ns env.locals m) (hm : m x = some (.ref t)) (hd : (x == ("__debug__" : Str)) = false)
    (ht : IsTup s.heap t #[v0, v1]) (ho : oi o v0) :
    wpAny (model prog w) A (eval (.Tuple [.Compare (.Subscript (.Name x p1) (.Constant (.int 0) j1 p2) p3) [.IsNot] [.Constant .none j2 p4] p5, .BoolOp .Or [.Subscript (.Name x p6) (.Constant (.int 0) j3 p7) p8, .Constant (.int 0) j4 p9] pa] kk pb) env)
      (KeyPure (lowKey o) s) (fun _ _ => False) s := by
  refine wpAny_Tuple (wpAny_items_cons (wpAny_Compare1 (fst_item hk hl hns hm hd ht (wpAny_Constant_none (isNot_none ?_)))))
  have fin : ∀ (u : Value) (tk : Nat), (∃ z, u = .int (o.getD 0) z) → ([Value.bool (!(v0 == .none)), u] : List Value).length ≤ sizeLine ∧
        KeyPure (lowKey o) s (.ref s.heap.objs.size) { s with heap := s.heap.push { cls := .type "tuple", data := .seq ([Value.bool (!(v0 == .none)), u] : List Value).toArray }, toks := tk } := by
    rintro _ tk ⟨z, rfl⟩
    refine ⟨by simp [sizeLine_eq], s.heap.push _, tk, rfl, fun b o q => Heap.get?_push_of_some _ q, ?_⟩
    refine .tuple (xs := [.bool o.isSome, .int (o.getD 0)]) (Heap.get?_push_size _ rfl) rfl rfl ?_
    have e : (!(v0 == .none)) = o.isSome := by
      cases o with
      | none => rw [show v0 = Value.none from ho]; rfl
      | some i => obtain ⟨z, hz⟩ := ho; rw [hz]; rfl
    rw [e]
    exact .cons (.bool _) (.cons (.int _ _) .nil)
  refine wpAny_items_cons (wpAny_Or2 (fst_item (s := { s with toks := s.toks + 1 }) hk hl hns hm hd ht ?_))
  cases o with
  | none =>
    have e : v0 = Value.none := ho
    rw [e] at fin ⊢
    refine truthy_none ?_
    rw [if_neg (by decide)]
    exact wpAny_Constant_int (wpAny_items_nil (fin _ _ ⟨_, rfl⟩))
  | some i =>
    obtain ⟨z, hz⟩ := ho
    rw [hz] at fin ⊢
    refine truthy_int ?_
    by_cases h : i = 0
    · subst h
      rw [if_neg (by decide)]
      exact wpAny_Constant_int (wpAny_items_nil (fin _ _ ⟨_, rfl⟩))
    · rw [if_pos (by simpa using h)]
      exact wpAny_items_nil (fin _ _ ⟨_, rfl⟩)
end
end DQ

set_option Elab.async false
set_option linter.all false
set_option maxRecDepth 100000
set_option maxHeartbeats 4000000
/-! DL13: sorted(xs, key=lambda x: (x[0] is not None, x[0] or 0)). -/
namespace DL
open PySem PySem.Spec L2
/-- the order of the keys -/
def lowLe : Option Int → Option Int → Bool
  | none, _ => true
  | some _, none => false
  | some i, some j => decide (i ≤ j)
theorem lowLe_data {β : Type} (k : β → Option Int) : PySem.W.dataLe false (fun b => DQ.lowKey (k b)) = fun p q => lowLe (k p) (k q) := by
  funext p q
  show (!PySem.W.dataLt (DQ.lowKey (k q)) (DQ.lowKey (k p))) = _
  have gen : ∀ (a b : Bool) (i j : Int), PySem.W.dataLt (.tuple [.bool a, .int i]) (.tuple [.bool b, .int j]) = if a = b then (if i = j then false else decide (i < j)) else PySem.W.dataLt (.bool a) (.bool b) := fun a b i j => by
    rw [PySem.W.dataLt_pair (by simp [PySem.W.alike]) (by simp [PySem.W.alike]), PySem.W.dataLt_int]
    cases a <;> cases b <;> simp [PyData.eqv]
  have ft : PySem.W.dataLt (.bool false) (.bool true) = true := by first | rfl | decide
  have tf : PySem.W.dataLt (.bool true) (.bool false) = false := by first | rfl | decide
  unfold DQ.lowKey
  rw [gen]
  cases k p with
  | none => cases k q <;> simp [lowLe, ft, tf]
  | some i =>
    cases k q with
    | none => simp [lowLe, ft, tf]
    | some j =>
      simp only [Option.isSome_some, if_true, Option.getD_some, lowLe]
      by_cases h : j = i
      · simp [h]
      · rw [if_neg h]
        by_cases h2 : j < i
        · have : ¬ i ≤ j := by omega
          simp [h2, this]
        · have : i ≤ j := by omega
          simp [h2, this]
/-- the value of a low end -/
def lowV : Option Int → V → Prop
  | none, v => v = .non
  | some i, v => v = .int i
def lowE (x : Str) (p1 p2 p3 p4 p5 p6 p7 p8 p9 pa pb : Pos) (j1 j2 j3 j4 kk : Nat) : Expr :=
  .Tuple [.Compare (.Subscript (.Name x p1) (.Constant (.int 0) j1 p2) p3) [.IsNot] [.Constant .none j2 p4] p5, .BoolOp .Or [.Subscript (.Name x p6) (.Constant (.int 0) j3 p7) p8, .Constant (.int 0) j4 p9] pa] kk pb
def kwLam (params : Arguments) (body : Expr) (scope : Scope) (lp kp : Pos) : List Keyword := [⟨some "key", .Lambda params body scope lp, kp⟩]
section
variable {X : Cx} {e : Expr} {te : TE} {p pos kp lp : Pos} {P c : Addr} {params : Arguments} {scope : Scope} {x : Str} {k : Nat} {T : List (Addr × Str)}
variable {p1 p2 p3 p4 p5 p6 p7 p8 p9 pa pb : Pos} {j1 j2 j3 j4 kk : Nat}
def sortPost (X : Cx) (T : List (Addr × Str)) (Q : VK) (v : V) (H1 : Hp) : Prop := LamX.Tabs T H1 ∧ ∀ H2, LamX.ExtN H1 H2 → LamX.Tabs T H2 → ∃ (a : Addr) (ks : List (V × Option Int)), v = .ref a ∧
  (SqL X.K H2 a (ks.map Prod.fst) ∨ SqT X.K H2 a (ks.map Prod.fst)) ∧ (∀ q ∈ ks, ∃ t y0 y1, q.1 = .ref t ∧ SqT X.K H2 t [y0, y1] ∧ lowV q.2 y0) ∧
  ∀ l, H2 l = none → Q (.ref l) (upd H2 l (.lst ((ks.mergeSort fun p q => lowLe p.2 q.2).map Prod.fst)))
def tSortLow (X : Cx) (T : List (Addr × Str)) (te : TE) : TE := fun σ H Q => te σ H (sortPost X T Q)
def sortPost1 (X : Cx) (T : List (Addr × Str)) (Q : VK) : List V → Hp → Prop
  | [v], H1 => sortPost X T Q v H1
  | _, _ => False
theorem vals_each {ks : List (V × Option Int)} {us : List Value} (r : Vals (ks.map Prod.fst) us) : PySem.W.EachIs (fun u (q : V × Option Int) => RelV q.1 u ∧ q ∈ ks) us ks := by
  have gen : ∀ (zs : List (V × Option Int)) (us : List Value), (∀ q ∈ zs, q ∈ ks) → Vals (zs.map Prod.fst) us → PySem.W.EachIs (fun u (q : V × Option Int) => RelV q.1 u ∧ q ∈ ks) us zs := by
    intro zs
    induction zs with
    | nil => intro us _ r; cases r; exact .nil
    | cons z zs ih =>
      intro us hm r
      cases r with
      | cons r1 r2 => exact .cons ⟨r1, hm z (List.mem_cons_self ..)⟩ (ih _ (fun q hq => hm q (List.mem_cons_of_mem _ hq)) r2)
  exact gen ks us (fun _ h => h) r
theorem each_vals {ks' : List (V × Option Int)} {P : V × Option Int → Prop} : ∀ {zs : List (V × Option Int)} {us : List Value}, PySem.W.EachIs (fun u (q : V × Option Int) => RelV q.1 u ∧ P q) us zs → Vals (zs.map Prod.fst) us
  | [], _, .nil => .nil
  | _ :: _, _, .cons h t => .cons h.1 (each_vals (ks' := ks') t)
theorem pe_sortLow (he : PE X e te) (hr : Room k X.A) (hg : Gl X "sorted") (hm : X.mg "sorted" = none) (TB : LamX.TabB X.base X.mg c P) (hcode : X.env.code = .ref c) (hT : (P, X.env.qual ++ "<lambda>") ∈ T)
    (hu : ∀ p ∈ T, p.1 = P → p.2 = X.env.qual ++ "<lambda>") (hdef : defaultsOf params X.env = ([], []))
    (hs : scope = { kind := .function, names := [(x, .local)], isGenerator := false, isCoroutine := false, more := [] }) (hd : (x == ("__debug__" : Str)) = false)
    (hbind : ∀ pm c' ctv v, bindArgs (PySem.W.kla_fn "<lambda>" (X.env.qual ++ "<lambda>") params (lowE x p1 p2 p3 p4 p5 p6 p7 p8 p9 pa pb j1 j2 j3 j4 kk) scope (cloFrom X.env.cells scope.names []) pm (.ref c') ctv) ⟨[v], []⟩ = pure [(x, v)])
    (h1 : starEach [e] X.env = (false, eval e X.env) :: starEach [] X.env := by rfl) (h2 : backTo pos (starEach [e] X.env) = (false, eval e X.env) :: backTo pos (starEach [] X.env) := by rfl)
    (h3 : (backTo pos (starEach [e] X.env)).any (·.1) = false := by rfl) :
    PE X (.Call (.Name "sorted" p) [e] (kwLam params (lowE x p1 p2 p3 p4 p5 p6 p7 p8 p9 pa pb j1 j2 j3 j4 kk) scope lp kp) pos) (tSortLow X T te) := by
  refine ⟨fun pins s σ H Q I h => ?_⟩
  have hfree : ∀ y ∈ scope.names, y.2 = .free → ∃ c, X.env.cells.lookup y.1 = some c := fun y hy z => by
    subst hs
    obtain rfl : y = (x, .local) := by simpa using hy
    cases z
  have ha : PA X [e] (tCons te tNil) := pa_cons he pa_nil h1
  refine wpAny_Call_Name_kw (ld_blt I hg hm (by rfl) ?_ (by decide) (by decide))
  refine PyProof.Rows.callWith_kw (thn (ha.run pos pins s σ H (sortPost1 X T Q) I h) fun us s1 ⟨vs, H1, I1, r1, q1⟩ => ?_) h2 h3
  obtain ⟨v, rfl⟩ : ∃ v, vs = [v] := by
    match vs, q1 with
    | [v], _ => exact ⟨v, rfl⟩
    | [], q | _ :: _ :: _, q => exact q.elim
  obtain ⟨tb1, hq⟩ := q1
  obtain ⟨u, rfl, ru⟩ := vals1 r1
  show wpAny _ _ (evalAll [(do let v ← eval (.Lambda params (lowE x p1 p2 p3 p4 p5 p6 p7 p8 p9 pa pb j1 j2 j3 j4 kk) scope lp) X.env; standAt pos; pure v)]) _ _ s1
  refine wpAny_evalAll_cons (wpAny_bind (LamX.lam_make2 I1 TB hcode hT hu tb1 hdef hfree fun f c' pm ctv H2 s2 I2 eN tb2 hof n1 n2 hc' => wpAny_bind (wpAny_standAt (wpAny_pure (wpAny_evalAll_nil ?_)))))
  obtain ⟨a, ks, rfl, hsq, hit, q⟩ := hq H2 eN tb2
  obtain rfl : u = Value.ref a := ru
  obtain ⟨⟨oc, ovs, ot, hoc, hdc, hvc⟩, _, _⟩ := I2.hok c' _ hc'
  obtain ⟨its, ri, hseq, hz⟩ : ∃ its : List Value, Vals (ks.map Prod.fst) its ∧ DQ.SeqAt s2.heap a its ∧ (ks.map Prod.fst).length ≤ sizeLine := by
    rcases hsq with hsq | hsq
    · obtain ⟨its, r', pl, hz⟩ := I2.list hsq
      obtain ⟨o, ho, hc, n, hd⟩ := pl.isList
      exact ⟨its, r', ⟨o, n, ho, .inl hc, hd⟩, hz⟩
    · obtain ⟨its, r', pl, hz⟩ := I2.tuple hsq
      obtain ⟨o, ho, hc, n, hd⟩ := pl
      exact ⟨its, r', ⟨o, n, ho, .inr hc, hd⟩, hz⟩
  show wpAny _ _ (call (.builtin "sorted") [.ref a] [(Str.ofString "key", .ref f)]) _ _ s2
  refine DQ.sorted_seq_key (fun q : V × Option Int => DQ.lowKey q.2) hseq (vals_each ri) (PySem.W.AllAlike.of fun b b' => ?_) (PySem.W.Sortable.tuples fun _ => ⟨_, _, rfl⟩) (by simpa using hz) (fun q _ => ?_) (fun v q hR g tk kg => ?_) fun out c0 g tk kg hD eo => ?_
  · simp [PySem.W.alike, PySem.W.alikeAll, DQ.lowKey]
  · have h1 : (DQ.lowKey q.2).depth = 1 := by simp [DQ.lowKey, PyData.depth, PyData.depthAll]
    have := hr.un
    omega
  · obtain ⟨rv, hm⟩ := hR
    obtain ⟨t, y0, y1, e1, st, lv⟩ := hit q hm
    rw [e1] at rv
    obtain rfl : v = Value.ref t := rv
    obtain ⟨its2, r2, ht, _⟩ := I2.tuple st
    obtain ⟨u0, u1, rfl, ra, rb⟩ := vals2 r2
    have ho : DQ.oi q.2 u0 := by
      cases hq2 : q.2 with
      | none =>
        rw [hq2] at lv
        have : y0 = .non := lv
        rw [this] at ra
        exact ra
      | some i =>
        rw [hq2] at lv
        have : y0 = .int i := lv
        rw [this] at ra
        exact ra
    subst hs
    refine DQ.lam_turn (s := { s2 with heap := g, toks := tk }) (x := x) (kg f _ hof) ⟨c', oc, ovs, ot, rfl, kg _ _ hoc, hdc, hvc⟩ (I2.nolimit.keeps kg) (by have := hr.dp; show X.A.depth < _; omega) (hbind pm c' ctv _) ?_ rfl rfl rfl (fun y hy => ?_) fun L g' tk' kg' hns => ?_
    · simp
    · obtain rfl : y = (x, .local) := by simpa using hy
      exact fun z => by cases z
    · refine DQ.low_key (s := { s2 with heap := g', toks := tk' }) (m := fun y => [(x, Value.ref t)].reverse.lookup y) rfl ?_ hns (by simp) hd ((ht.keeps kg).keeps kg') ho
      show List.lookup x [(x, NameKind.local)] = some .local
      simp
  · rw [lowLe_data (fun q : V × Option Int => q.2)] at eo
    have rv := each_vals (ks' := ks) eo
    refine ⟨.ref (s2.heap.objs.size + 1), _, I2.laid (o := .lst ((ks.mergeSort fun p q => lowLe p.2 q.2).map Prod.fst)) (t' := tk) kg (Nat.le_succ _) ⟨?_, out, c0, rv, hD⟩, rfl, q _ (I2.hok.fresh (Nat.le_succ _))⟩
    simpa using hz
end
end DL
namespace DL
open PySem PySem.Spec L2
def D.seq (d : D) (bx : List D) : Option (List D) := match d with
  | .tup ds => some ds
  | d => d.sL bx
def lowD : D → Option (Option Int)
  | .tup [.non, _] => some none
  | .tup [.int i, _] => some (some i)
  | _ => none
def dLow (d : D) : Option Int := (lowD d).getD none
def sortLow (ds : List D) : List D := ds.mergeSort fun p q => lowLe (dLow p) (dLow q)
def mSortLow (m : ME) : ME := fun ρ bx => (m ρ bx).bind fun r b => match r.d.seq b with
  | some ds => if (ds.all fun d => (lowD d).isSome) = true then .ok (.new (.lst (sortLow ds))) b else .stk
  | none => .stk
section
variable {K : PySem.W.Frag} {CA : Ly} {F : Addr → Prop} {μ : List Addr} {H H2 : Hp} {bx : List D}
theorem Ext.ofN (eN : LamX.ExtN H H2) : Ext F μ H F H2 := ⟨fun _ h => h, fun _ h => .inl h, fun a o h _ n => eN a o h n⟩
theorem Sx.extN (s : Sx K CA F μ H bx) (eN : LamX.ExtN H H2) (tb : LamX.Tabs CA.tb H2) : Sx K CA F μ H2 bx := by
  have st : Stay F H H2 := fun a o f h => eN a o h (s.ft a o f h)
  refine ⟨s.len, fun n d a h1 h2 => ?_, s.nd, s.dj, fun a f => ?_, fun a o f h => ?_, tb⟩
  · have z := s.at_ n d a h1 h2
    exact z.mono (fun _ h => h) (fun _ _ q => q) st fun o q => eN a o q (z.nt o q)
  · obtain ⟨o, h⟩ := s.tr a f
    exact ⟨o, st a o f h⟩
  · obtain ⟨o', h'⟩ := s.tr a f
    have := st a o' f h'
    rw [h] at this
    cases this
    exact s.ft a o f h'
theorem seq_at {d : D} {v : V} {ds : List D} (s : Sx K CA F μ H bx) (r : Rp K CA F μ H d v) (q : d.seq bx = some ds) : ∃ a vs, v = .ref a ∧ (SqL K H a vs ∨ SqT K H a vs) ∧ Rps K CA F μ H ds vs := by
  have gen : d.sL bx = some ds → ∃ a vs, v = .ref a ∧ (SqL K H a vs ∨ SqT K H a vs) ∧ Rps K CA F μ H ds vs := fun q => by
    obtain ⟨a, vs, h1, h2, h3⟩ := sL_at s r q
    exact ⟨a, vs, h1, .inl h2, h3⟩
  cases d with
  | tup es =>
    have : es = ds := by simpa [D.seq] using q
    subst this
    obtain ⟨a, vs, h1, h2, h3⟩ := r
    exact ⟨a, vs, h1, .inr h2.sq, h3⟩
  | _ => exact gen q
theorem lowD_at {d : D} {v : V} {o : Option Int} (r : Rp K CA F μ H d v) (q : lowD d = some o) : ∃ t y0 y1, v = .ref t ∧ SqT K H t [y0, y1] ∧ lowV o y0 := by
  unfold lowD at q
  split at q
  · cases q
    obtain ⟨a, vs, h1, h2, h3⟩ := r
    match vs, h3 with
    | [y0, y1], h3 => exact ⟨a, y0, y1, h1, h2.sq, h3.1⟩
    | [], h3 => exact h3.elim
    | [_], h3 => exact h3.2.elim
    | _ :: _ :: _ :: _, h3 => exact h3.2.2.elim
  · cases q
    obtain ⟨a, vs, h1, h2, h3⟩ := r
    match vs, h3 with
    | [y0, y1], h3 => exact ⟨a, y0, y1, h1, h2.sq, h3.1⟩
    | [], h3 => exact h3.elim
    | [_], h3 => exact h3.2.elim
    | _ :: _ :: _ :: _, h3 => exact h3.2.2.elim
  · cases q
theorem rps_pairs : ∀ {ds : List D} {vs : List V}, Rps K CA F μ H ds vs → (∀ z ∈ ds.zip vs, Rp K CA F μ H z.1 z.2)
  | [], [], _, z, h => by simp at h
  | d :: ds, v :: vs, r, z, h => by
    rcases List.mem_cons.mp (by simpa using h : z ∈ (d, v) :: ds.zip vs) with e | e
    · rw [e]; exact r.1
    · exact rps_pairs r.2 z e
  | [], _ :: _, r, _, _ => r.elim
  | _ :: _, [], r, _, _ => r.elim
theorem pairs_rps : ∀ {zs : List (D × V)}, (∀ z ∈ zs, Rp K CA F μ H z.1 z.2) → Rps K CA F μ H (zs.map Prod.fst) (zs.map Prod.snd)
  | [], _ => trivial
  | z :: zs, h => ⟨h z (List.mem_cons_self ..), pairs_rps fun y hy => h y (List.mem_cons_of_mem _ hy)⟩
end
section
variable {X : Cx} {CA : Ly} {W : WX} {e : Expr} {p pos kp lp : Pos} {P c : Addr} {params : Arguments} {scope : Scope} {x : Str} {k : Nat}
variable {p1 p2 p3 p4 p5 p6 p7 p8 p9 pa pb : Pos} {j1 j2 j3 j4 kk : Nat}
theorem se_sortLow {m : ME} (he : SE X CA W e m) (hr : Room k X.A) (hg : Gl X "sorted") (hm : X.mg "sorted" = none) (TB : LamX.TabB X.base X.mg c P) (hcode : X.env.code = .ref c) (hT : (P, X.env.qual ++ "<lambda>") ∈ CA.tb)
    (hu : ∀ p ∈ CA.tb, p.1 = P → p.2 = X.env.qual ++ "<lambda>") (hdef : defaultsOf params X.env = ([], []))
    (hs : scope = { kind := .function, names := [(x, .local)], isGenerator := false, isCoroutine := false, more := [] }) (hd : (x == ("__debug__" : Str)) = false)
    (hbind : ∀ pm c' ctv v, bindArgs (PySem.W.kla_fn "<lambda>" (X.env.qual ++ "<lambda>") params (lowE x p1 p2 p3 p4 p5 p6 p7 p8 p9 pa pb j1 j2 j3 j4 kk) scope (cloFrom X.env.cells scope.names []) pm (.ref c') ctv) ⟨[v], []⟩ = pure [(x, v)])
    (h1 : starEach [e] X.env = (false, eval e X.env) :: starEach [] X.env := by rfl) (h2 : backTo pos (starEach [e] X.env) = (false, eval e X.env) :: backTo pos (starEach [] X.env) := by rfl)
    (h3 : (backTo pos (starEach [e] X.env)).any (·.1) = false := by rfl) :
    SE X CA W (.Call (.Name "sorted" p) [e] (kwLam params (lowE x p1 p2 p3 p4 p5 p6 p7 p8 p9 pa pb j1 j2 j3 j4 kk) scope lp kp) pos) (mSortLow m) := by
  obtain ⟨te, t1, t2⟩ := he.dat
  refine ⟨tSortLow X CA.tb te, pe_sortLow t1 hr hg hm TB hcode hT hu hdef hs hd hbind h1 h2 h3, fun ρ bx F μ σ H Q s n o => t2 ρ bx F μ σ H _ s n ?_⟩
  unfold mSortLow at o
  cases q : m ρ bx with
  | stk => rw [q] at o; exact o.elim
  | exn c ns ds b => rw [q] at o; exact o
  | ok r b =>
    rw [q] at o
    intro v F1 H1 e1 s1 rv
    simp only [Out.bind_ok] at o
    cases q2 : r.d.seq b with
    | none => rw [q2] at o; exact o.elim
    | some ds =>
      simp only [q2] at o
      by_cases ha : (ds.all fun d => (lowD d).isSome) = true
      · rw [if_pos ha] at o
        refine ⟨s1.tb, fun H2 eN tb2 => ?_⟩
        have e2 : Ext F1 μ H1 F1 H2 := Ext.ofN eN
        have s2 := s1.extN eN tb2
        obtain ⟨a, vs, ev, hsq, rs⟩ := seq_at s2 (rv.ext s1 e2) q2
        have hl := rs.length
        have o2 := OkG.shiftR (e1.trans e2) o
        have rp := rps_pairs rs
        have mf : (ds.zip vs).map Prod.fst = ds := List.map_fst_zip (by omega)
        have ms : (ds.zip vs).map Prod.snd = vs := List.map_snd_zip (by omega)
        refine ⟨a, (ds.zip vs).map fun z => (z.2, dLow z.1), ev, ?_, fun y hy => ?_, ?_⟩
        · have : (List.map (fun z : D × V => (z.2, dLow z.1)) (ds.zip vs)).map Prod.fst = vs := by
            rw [List.map_map]; exact ms
          rw [this]; exact hsq
        · obtain ⟨z, hz, rfl⟩ := List.mem_map.mp hy
          have hd1 : z.1 ∈ ds := (List.of_mem_zip hz).1
          obtain ⟨o3, h3⟩ := Option.isSome_iff_exists.mp (List.all_eq_true.mp ha _ hd1)
          have : dLow z.1 = o3 := by unfold dLow; rw [h3]; rfl
          show ∃ t y0 y1, z.2 = .ref t ∧ SqT X.K H2 t [y0, y1] ∧ lowV (dLow z.1) y0
          rw [this]
          exact lowD_at (rp z hz) h3
        · let zs := (ds.zip vs).mergeSort fun y z => lowLe (dLow y.1) (dLow z.1)
          have a1 : zs.map Prod.fst = sortLow ds := by
            show ((ds.zip vs).mergeSort _).map Prod.fst = _
            rw [List.map_mergeSort (s := fun p q => lowLe (dLow p) (dLow q)) (fun _ _ _ _ => rfl), mf]; rfl
          have a2 : ((List.map (fun z : D × V => (z.2, dLow z.1)) (ds.zip vs)).mergeSort fun p q => lowLe p.2 q.2).map Prod.fst = zs.map Prod.snd := by
            rw [← List.map_mergeSort (f := fun z : D × V => (z.2, dLow z.1)) (r := fun y z : D × V => lowLe (dLow y.1) (dLow z.1)) (s := fun p q : V × Option Int => lowLe p.2 q.2) (fun _ _ _ _ => rfl), List.map_map]
            rfl
          rw [a2]
          rw [← a1] at o2
          exact okL o2 s2 (pairs_rps fun z hz => rp z ((List.mergeSort_perm _ _).mem_iff.mp hz))
      · rw [if_neg ha] at o; exact o.elim
end
end DL

set_option Elab.async false
set_option linter.all false
set_option maxRecDepth 100000
set_option maxHeartbeats 4000000
/-! DL14: lists that are boxes walked, conditions of comprehensions, types as values. -/
namespace DL
open PySem PySem.Spec L2
section
variable {X : Cx} {CA : Ly} {W : WX} {tg iter c e : Expr} {pos : Pos} {sts : List Stmt}
/-! ### for x in a box -/
def loopB (g : D → Sl → Option Sl) (m : MS) (n : Nat) : Nat → Nat → Sl → List D → OutS
  | 0, _, _, _ => .stk
  | k + 1, i, ρ, b => match b[n]? with
    | some (.lst xs) => (match xs[i]? with
      | none => .nx ρ b
      | some d => (match g d ρ with
        | none => .stk
        | some ρ' => (match m ρ' b with
          | .nx ρ2 b2 => loopB g m n k (i + 1) ρ2 b2
          | .ct ρ2 b2 => loopB g m n k (i + 1) ρ2 b2
          | .bk ρ2 b2 => .nx ρ2 b2
          | o => o)))
    | _ => .stk
def mForB (k : Nat) (mi : ME) (g : D → Sl → Option Sl) (m : MS) : MS := fun ρ bx => liftE (mi ρ bx) ρ fun r b => match r.d with
  | .box n => loopB g m n k 0 ρ b
  | _ => .stk
theorem loopB_ok {g : D → Sl → Option Sl} {m : MS} {tgr : TG} {tb : TS} {D : Ends} {n k : Nat} {a : Addr} {F1 : Addr → Prop} {μ1 : List Addr} {H1 : Hp} {b : List DL.D}
    {is : List Nat} (hg : ∀ d v ρ bx F μ σ H Q, Sx X.K CA F μ H bx → En X.K CA F μ H ρ σ → Rp X.K CA F μ H d v → (∃ ρ', g d ρ = some ρ' ∧ ∀ σ', En X.K CA F μ H ρ' σ' → Agr is σ σ' → Q σ' H) → tgr v σ H Q)
    (hb : ∀ ρ bx F μ σ H D, Sx X.K CA F μ H bx → En X.K CA F μ H ρ σ → OkS X.K CA W F μ H D (m ρ bx) → tb D σ H)
    (s1 : Sx X.K CA F1 μ1 H1 b) (ha : μ1[n]? = some a) {ρ : Sl} {σ : L2.St} (n1 : En X.K CA F1 μ1 H1 ρ σ) (o : OkS X.K CA W F1 μ1 H1 D (loopB g m n k 0 ρ b)) :
    ∃ Wi : Nat → Nat → L2.St → Hp → Prop, (∃ m, Wi 0 m σ H1) ∧ ∀ i m σ H, Wi i m σ H →
      ((Itl X.K a).stop i H ∧ D.nx σ H) ∨ ((Itl X.K a).go i H ∧ ∃ N : L2.St → Hp → Prop, (∀ σ' H', N σ' H' → ∃ m', m' < m ∧ Wi (i + 1) m' σ' H') ∧ ∀ x H', (Itl X.K a).yld i H x H' → tgr x σ H' fun σ2 H2 => tb { D with nx := N, ct := N, bk := D.nx } σ2 H2) := by
  let P : Nat → Nat → L2.St → Hp → Prop := fun i k' σ' H' => ∃ ρ' bx' F' μ', ExtM F1 μ1 H1 F' μ' H' ∧ Sx X.K CA F' μ' H' bx' ∧ En X.K CA F' μ' H' ρ' σ' ∧ OkS X.K CA W F' μ' H' D (loopB g m n k' i ρ' bx')
  refine ⟨fun i k' σ' H' => P i k' σ' H', ⟨k, ρ, b, F1, μ1, ExtM.refl, s1, n1, o⟩, ?_⟩
  rintro i k' σ2 H2 ⟨ρ2, bx2, F2, μ2, e2, s2, n2, o2⟩
  cases k' with
  | zero => exact o2.elim
  | succ k' =>
    unfold loopB at o2
    have ha2 := e2.get n a ha
    cases q : bx2[n]? with
    | none => rw [q] at o2; exact o2.elim
    | some d0 =>
      rw [q] at o2
      cases d0 with
      | lst xs =>
        obtain ⟨vs, hv, rv⟩ := s2.at_ n _ a q ha2
        have sq : SqL X.K H2 a vs := .inl (.inl hv)
        cases q2 : xs[i]? with
        | none =>
          simp only [q2] at o2
          have hi : vs.length ≤ i := by rw [← rv.length]; exact List.getElem?_eq_none_iff.mp q2
          exact .inl ⟨⟨vs, sq, hi⟩, o2 σ2 F2 μ2 H2 ExtM.refl s2 n2⟩
        | some d =>
          simp only [q2] at o2
          obtain ⟨v, v1, v2⟩ := rv.get q2
          refine .inr ⟨⟨vs, v, sq, v1⟩, P (i + 1) k', fun σ' H' p => ⟨k', Nat.lt_succ_self _, p⟩, fun x H3 y => ?_⟩
          obtain ⟨rfl, y2⟩ := y
          have := y2 vs sq
          rw [v1] at this; cases this
          cases q3 : g d ρ2 with
          | none => simp only [q3] at o2; exact o2.elim
          | some ρ3 =>
            simp only [q3] at o2
            refine hg d v ρ2 bx2 F2 μ2 σ2 _ _ s2 n2 v2 ⟨ρ3, q3, fun σ4 n4 _ => hb ρ3 bx2 F2 μ2 σ4 _ _ s2 n4 ?_⟩
            have fin : ∀ {ρ' : Sl} {b' : List DL.D}, OkS X.K CA W F2 μ2 H3 D (loopB g m n k' (i + 1) ρ' b') → ∀ σ' F' μ' H', ExtM F2 μ2 H3 F' μ' H' → Sx X.K CA F' μ' H' b' → En X.K CA F' μ' H' ρ' σ' → P (i + 1) k' σ' H' :=
              fun {ρ' b'} o4 σ' F' μ' H' e' s' n' => ⟨ρ', b', F', μ', e2.trans s2 e', s', n', OkS.shift e' s' o4⟩
            cases q4 : m ρ3 bx2 with
            | nx ρ' b' => simp only [q4] at o2; exact fin o2
            | ct ρ' b' => simp only [q4] at o2; exact fin o2
            | bk ρ' b' => simp only [q4] at o2; exact o2
            | rt r b' => simp only [q4] at o2; exact o2
            | exn c ns ds ρ' b' => simp only [q4] at o2; exact o2
            | stk => simp only [q4] at o2; exact o2
      | _ => exact o2.elim
theorem ss_forB (k : Nat) {is : List Nat} {mi : ME} {g : D → Sl → Option Sl} {m : MS} (hF : Frm X W) (hi : SE X CA W iter mi) (hg : SG X CA tg is g) (hb : SB X CA W sts m) (hs : ∀ x, foldedSetIterable iter X.env x = pure x := by intro _; rfl) : SS X CA W (.For tg iter sts [] pos) (mForB k mi g m) := by
  obtain ⟨te, t1, t2⟩ := hi.dat
  obtain ⟨tg', g1, g2⟩ := hg.ex
  obtain ⟨tb, b1, b2⟩ := hb.ex
  refine ⟨_, ps_for hF.po hF.calm (pi_list t1) g1 b1 hs, fun ρ bx F μ σ H D s n o => t2 ρ bx F μ σ H _ s n ?_⟩
  have o' : OkS X.K CA W F μ H D (liftE ((mi ρ bx).map R.d) ρ fun d b => match d with | .box n => loopB g m n k 0 ρ b | _ => .stk) := by rw [liftE_map]; exact o
  refine OkS.seqE s n o' fun d b v F1 H1 e1 s1 rr o1 => ?_
  cases d with
  | box j =>
    obtain ⟨a, rfl, ha⟩ := rr
    have hx : ∃ xs, SqL X.K H1 a xs := by
      cases q : b[j]? with
      | none =>
        have h1 := (List.getElem?_eq_some_iff.mp ha).1
        have h2 := List.getElem?_eq_none_iff.mp q
        rw [s1.len] at h2; omega
      | some d0 =>
        cases k with
        | zero => exact o1.elim
        | succ k =>
          have o3 : OkS X.K CA W F μ H D (loopB g m j (k + 1) 0 ρ b) := o1
          unfold loopB at o3
          rw [q] at o3
          cases d0 with
          | lst xs =>
            obtain ⟨vs, hv, _⟩ := s1.at_ j _ a q ha
            exact ⟨vs, .inl (.inl hv)⟩
          | _ => exact o3.elim
    exact ⟨a, rfl, hx, loopB_ok g2 b2 s1 ha (n.ext s e1) (OkS.shift e1.m s1 o1)⟩
  | _ => exact o1.elim
/-! ### conditions -/
def mYes : MB := fun _ bx => .ok true bx
theorem PTs.weak {ifs : List Expr} {t t' : TT} (h : PTs X ifs t) (k : ∀ σ H Q, t' σ H Q → t σ H Q) : PTs X ifs t' := ⟨fun pins s σ H Q I q => h.run pins s σ H Q I (k σ H Q q)⟩
theorem pts_no : PTs X [] (tMB X.K CA W mYes) := PTs.weak pts_nil fun σ H Q ⟨ρ, bx, F, μ, s, n, o⟩ => o true F H Ext.refl s rfl
theorem pts_if {m : MB} (h : ST X CA W c m) : PTs X [c] (tMB X.K CA W m) := by
  obtain ⟨t, t1, t2⟩ := h.ex
  exact PTs.weak (pts_one t1) fun σ H Q ⟨ρ, bx, F, μ, s, n, o⟩ => t2 ρ bx F μ σ H Q s n o
/-! ### a built-in type's name -/
theorem se_ty {x : Str} {T : String} (hg : Gl X x) (hm : X.mg x = none) (hv : bootBuiltins x = some (.type T)) (hn : x ≠ "__name__" := by decide) (hd : (x == ("__debug__" : Str)) = false := by decide) : SE X CA W (.Name x pos) (mC (.ty T)) :=
  se_c (v := .ty T) (pe_bltn hg hm hv rfl hn hd) fun _ _ _ => rfl
end
end DL
namespace DL
open PySem PySem.Spec L2
theorem takes0 {X : Cx} : Takes X W0 := fun u s' ⟨a, B, sI, pins, σ, H, cls, d, e, I, nb, up, sky, na, os, ag, w⟩ => w.elim
theorem _root_.L2.Room.u64 {k : Nat} {A : Around} (r : Room k A) : A.units + 64 < cLine := by have := r.un; omega
theorem SW.st' {X : Cx} {CA : Ly} {W : WX} {e : Expr} {m : MB} (h : SW X CA W e m) : ST X CA W e m := let ⟨t, h1, h2⟩ := h.ex; ⟨t, h1.pt, h2⟩
end DL

set_option Elab.async false
set_option linter.all false
set_option maxRecDepth 100000
set_option maxHeartbeats 4000000
/-! DL15: enumerate over a tuple, dict displays. -/
namespace DQ
open PySem
open Sem (wp)
/-- the enumerate object over an iterator at p -/
abbrev enO (p : Addr) : Obj := { cls := .type "enumerate", data := .fields #[.none, .bool false, .ref p, rawInt 0, .none, .none] }
abbrev tiO (l : Addr) : Obj := { cls := .type "tuple_iterator", data := .fields #[.ref l, .int 0 0] }
theorem meets_enumT (l : Addr) (items : Array Value) :
    Meets (Builtin.«enumerate.__new__» ⟨[.type "enumerate", .ref l], []⟩) (fun _ R s => s.heap.IsTuple l items ∧
      R (.ok (.ret (.ref (s.heap.push (tiO l)).objs.size))) { s with heap := (s.heap.push (tiO l)).push (enO s.heap.objs.size) }) :=
  .of_wp fun prog w A R s h => by
    obtain ⟨hp, g, d, tk, os⟩ := s
    obtain ⟨hl, h⟩ := h
    have hsub := sub_enumerate
    have q1 : ∀ {A' : Around} {E : Value → Shared → Prop} {Q : Value → Shared → Prop}, Q (.ref hp.objs.size) ⟨hp.push (tiO l), g, d, tk, os⟩ → wpAny (model prog w) A' (pyIter (.ref l)) Q E ⟨hp, g, d, tk, os⟩ :=
      fun q => wpAny_pyIter_tuple (s := ⟨hp, g, d, tk, os⟩) hl q
    obtain ⟨o, ho, hc, n, hd⟩ := id hl
    wp_walk using AutoSeq1.wpAny_loadPart' ho, q1
    refine wpAny_stack_any fun st => wpAny_pure ?_
    split
    · rename_i c _ _ _ _ _
      cases (c == Value.type "enumerate")
      · wp_walk using AutoSeq1.wpAny_loadPart' ho, q1
        exact ⟨_, rfl, h⟩
      · wp_walk using AutoSeq1.wpAny_loadPart' ho, q1
        exact ⟨_, rfl, h⟩
    · wp_walk using AutoSeq1.wpAny_loadPart' ho, q1
      exact ⟨_, rfl, h⟩
section
variable {prog : Program} {w : World} {A : Around} {E : Value → Shared → Prop} {s : Shared}
theorem call_enumT {l : Addr} {items : Array Value} {Q : Value → Shared → Prop} (hL : s.heap.IsTuple l items)
    (h : ∀ h', IsEnum h' (s.heap.objs.size + 1) s.heap.objs.size 0 .none → h'.IsTupleIter s.heap.objs.size l 0 → (∀ b o, s.heap.get? b = some o → h'.get? b = some o) → Q (.ref (s.heap.objs.size + 1)) { s with heap := h' }) :
    wpAny (model prog w) A (call (.type "enumerate") [.ref l]) Q E s := by
  refine callType_new F.called_enumerate (by decide) (F.typeCall_enumerate_1 _) (F.newCall_enumerate_1 _) (fun obj => F.args_object_init_2 obj _) F.entry_enumerate_new (meets_enumT l items) ⟨hL, ?_⟩
  have z1 : (s.heap.push (tiO l)).objs.size = s.heap.objs.size + 1 := Heap.size_push ..
  show _ ∧ _
  rw [z1]
  have he : IsEnum ((s.heap.push (tiO l)).push (enO s.heap.objs.size)) (s.heap.objs.size + 1) s.heap.objs.size 0 .none := by
    have q := Heap.get?_push_size (s.heap.push (tiO l)) (o := enO s.heap.objs.size) rfl
    rw [z1] at q
    exact q
  refine ⟨⟨_, he, rfl⟩, h _ he ⟨_, Heap.get?_push_of_some _ (Heap.get?_push_size _ rfl), rfl, rfl⟩ fun b o x => ?_⟩
  exact Heap.get?_push_of_some _ (Heap.get?_push_of_some _ x)
end
end DQ
namespace DL
open PySem PySem.Spec L2
/-- the tuple at a, each item in a new pair with its place -/
def Iet (K : PySem.W.Frag) (a : Addr) : It :=
  ⟨fun i H => ∃ (xs : List V) (x : V), SqT K H a xs ∧ xs[i]? = some x, fun i H v H' => ∃ T x, v = .ref T ∧ H T = none ∧ H' = upd H T (.tup [.int (i : Nat), x]) ∧ ∀ xs, SqT K H a xs → xs[i]? = some x, fun i H => ∃ xs : List V, SqT K H a xs ∧ xs.length = i⟩
theorem turn_enumT {P : Program} {w : World} {K : PySem.W.Frag} {elts : List Expr} {kk : Nat} {tpos : Pos} (a e it : Addr) :
    Turn P w K (.Tuple elts kk tpos) (Iet K a) [e, it] e (fun i h => (∃ old, IsEnum h e it ((i : Nat) : Int) old) ∧ h.IsTupleIter it a i ∧ e ≠ it ∧ a ≠ it ∧ a ≠ e) where
  mem := by simp
  obj := fun i h st b hb => by
    obtain ⟨⟨old, he⟩, ⟨o, ho, hc, hd⟩, _⟩ := st
    rcases (show b = e ∨ b = it by simpa using hb) with z | z
    · rw [z]; exact ⟨_, he, fun v q => nomatch q⟩
    · exact ⟨o, z ▸ ho, fun v q => by rw [hd] at q; cases q⟩
  keep := fun i h h' st k => by
    obtain ⟨⟨old, he⟩, hi, hne⟩ := st
    exact ⟨⟨old, k e (by simp) _ he⟩, hi.at fun o q => k it (by simp) o q, hne⟩
  item := by
    intro X hP hw hK hc i pins s σ H E I hf st hg
    subst hP hw hK
    obtain ⟨⟨old, he⟩, hit, hne, hai, hae⟩ := st
    obtain ⟨xs, x, hq, hx⟩ := hg
    obtain ⟨its, rv, p, hz⟩ := I.tuple hq
    obtain ⟨u, hu, ru⟩ := rv.get hx
    have lte : e < s.heap.objs.size := Heap.lt_size he
    have lti : it < s.heap.objs.size := by obtain ⟨_, q, _⟩ := hit; exact Heap.lt_size q
    have lts : ∀ b ∈ [e, it], b < s.heap.objs.size := fun b hb => by
      rcases (show b = e ∨ b = it by simpa using hb) with z | z
      · rw [z]; exact lte
      · rw [z]; exact lti
    have hus : its.toArray[i]? = some u := by simpa using hu
    have hil : i < its.toArray.size := (Array.getElem?_eq_some_iff.mp hus).1
    have D := Draws.tuple (prog := X.prog) (w := X.w) (A := X.A.in1) (show X.A.in1.handled = none from I.ok.hd hc) it a hai its.toArray
    refine wpAny_pyNext_enum_itemD D he ⟨hit, p⟩ hil hne (by simp [Ne.symm hae, hne]) fun x' h' tk hx' ho st' hT hsz hk => ?_
    have ex : x' = u := by
      have hx2 : its.toArray[i]? = some x' := hx'
      rw [hus] at hx2
      exact (Option.some.inj hx2).symm
    subst ex
    refine ⟨_, rfl, wpAny_letOwnedTupleGo_enum (s := { s with heap := h', toks := tk + 1 }) ho fun h'' he' sb => ?_⟩
    have hT2 : h''.get? s.heap.objs.size = some { cls := .type "tuple", data := .seq #[.int i tk, x'] } := (sb.2 _ (Nat.ne_of_gt lte)).trans hT
    have new : ObjOk X.prog X.w (upd H s.heap.objs.size (.tup [.int (i : Nat), x])) h'' s.heap.objs.size (.tup [.int (i : Nat), x]) :=
      ⟨by show 2 ≤ sizeLine; decide, [.int i tk, x'], .cons ⟨_, rfl⟩ (.cons ru .nil), ⟨_, hT2, rfl, _, rfl⟩⟩
    have I1 : Inv X pins σ (upd H s.heap.objs.size (.tup [.int (i : Nat), x])) { s with heap := h'', toks := tk + 1 } :=
      I.turnedNew (ch := [e, it]) (fun b ob hb q => by
        have n1 : b ≠ e := fun z => hb (by simp [z])
        have n2 : b ≠ it := fun z => hb (by simp [z])
        exact (sb.2 b n1).trans (hk b ob n1 n2 q)) hf (Nat.le_refl _) new
    have look : ∀ ys, SqT X.K H a ys → ys[i]? = some x := fun ys hy => by rw [I.tuple_inj hy hq]; exact hx
    have e1 : ((i + 1 : Nat) : Int) = (i : Int) + 1 := by omega
    refine ⟨.ref s.heap.objs.size, _, I1, rfl, ⟨_, x, rfl, I.hok.fresh (Nat.le_refl _), rfl, look⟩, ⟨⟨x', by rw [e1]; exact he'⟩, st'.1.at fun o q => (sb.2 it (Ne.symm hne)).trans q, hne, hai, hae⟩, fun b hb => ?_⟩
    rw [upd_ne (Nat.ne_of_lt (lts b hb))]
    exact (hf b hb).1
  done := by
    intro X hP hw hK hc i pins s σ H E I hf st hg
    subst hP hw hK
    obtain ⟨⟨old, he⟩, hit, hne, hai, hae⟩ := st
    obtain ⟨xs, hq, hx⟩ := hg
    obtain ⟨its, rv, p, hz⟩ := I.tuple hq
    obtain ⟨f0, f1, f2, f3, f4, f5⟩ := hf it (by simp)
    have hl := rv.length
    have hn : i = its.toArray.size := by simp; omega
    have D := Draws.tuple (prog := X.prog) (w := X.w) (A := X.A.in1) (show X.A.in1.handled = none from I.ok.hd hc) it a hai its.toArray
    have hit2 : s.heap.IsTupleIter it a its.toArray.size := hn ▸ hit
    exact wpAny_pyNext_enum_endD D he ⟨hit2, p⟩ fun h' eb => ⟨rfl, I.turned (t' := s.toks) (fun b o hb q => eb b o hb q) f0 f1 f3 f4 f5⟩
  self := fun A i s Q E st h => let ⟨⟨_, he⟩, _⟩ := st; wpAny_pyIter_enum he h
def iEnT (K : PySem.W.Frag) (ta : TA) : TI := fun σ H R => ta σ H fun vs H1 => ∃ a xs, vs = [.ref a] ∧ SqT K H1 a xs ∧ R (Iet K a) H1
theorem pi_enumT {X : Cx} {e : Expr} {ta : TA} {p pos tpos : Pos} {elts : List Expr} {kk : Nat} (hg : Gl X "enumerate") (hm : X.mg "enumerate" = none) (ha : PA X [e] ta) (hs : starEach [e] X.env = [(false, eval e X.env)] := by rfl) :
    PI X (.Tuple elts kk tpos) (.Call (.Name "enumerate" p) [e] [] pos) (iEnT X.K ta) := by
  refine ⟨fun pins s σ H R I h => ?_⟩
  refine PyProof.Rows.Call_ (ld_blt I hg hm PyProof.Rows.boot_enumerate (PyProof.Rows.callWith_type1 (thn (ha.run pos pins s σ H _ I h) fun us s1 ⟨vs, H1, I1, r1, a, xs, ex, hq, q⟩ => ?_) hs rfl))
  subst ex
  obtain ⟨u, rfl, ru⟩ := vals1 r1
  obtain rfl : u = Value.ref a := ru
  obtain ⟨its, rv, p', hz⟩ := I1.tuple hq
  have lta : a < s1.heap.objs.size := by obtain ⟨o, ho, _⟩ := p'; exact Heap.lt_size ho
  refine DQ.call_enumT (show s1.heap.IsTuple a its.toArray from p') fun h' he hit hk => wpAny_pyIter_enum he ?_
  have I2 : Inv X pins σ H1 { s1 with heap := h' } := I1.kept (t' := s1.toks) hk
  have n1 : a ≠ s1.heap.objs.size := Nat.ne_of_lt lta
  have n2 : a ≠ s1.heap.objs.size + 1 := Nat.ne_of_lt (Nat.lt_succ_of_lt lta)
  refine ⟨s1.heap.objs.size + 1, [s1.heap.objs.size + 1, s1.heap.objs.size], _, _, H1, rfl, I2, turn_enumT a (s1.heap.objs.size + 1) s1.heap.objs.size, ⟨⟨.none, he⟩, hit, Nat.succ_ne_self _, n1, n2⟩, fun b hb => ?_, q⟩
  have hle : s1.heap.objs.size ≤ b := by
    rcases (show b = s1.heap.objs.size + 1 ∨ b = s1.heap.objs.size by simpa using hb) with z | z
    · rw [z]; exact Nat.le_succ _
    · rw [z]; exact Nat.le_refl _
  exact I1.fpOk hle (I1.hok.fresh hle)
/-- the pairs -/
def pairsFrom : Nat → List D → List D
  | _, [] => []
  | i, d :: ds => .tup [.int i, d] :: pairsFrom (i + 1) ds
theorem pairs_len : ∀ (i : Nat) (ds : List D), (pairsFrom i ds).length = ds.length
  | _, [] => rfl
  | i, _ :: ds => congrArg Nat.succ (pairs_len (i + 1) ds)
theorem pairs_get : ∀ (i : Nat) (ds : List D) (j : Nat), (pairsFrom i ds)[j]? = (ds[j]?).map fun d => .tup [.int ((i + j : Nat) : Int), d]
  | _, [], _ => by simp [pairsFrom]
  | i, d :: ds, 0 => by simp [pairsFrom]
  | i, d :: ds, j + 1 => by
    have h := pairs_get (i + 1) ds j
    simp only [pairsFrom, List.getElem?_cons_succ, h]
    congr 1
    funext d
    have : i + 1 + j = i + (j + 1) := by omega
    rw [this]
def iEnM (m : ME) : MI := fun ρ bx => (m ρ bx).bind fun r b => match r.d with
  | .tup ds => .ok (pairsFrom 0 ds) b
  | _ => .stk
theorem si_enum {X : Cx} {CA : Ly} {W : WX} {e : Expr} {m : ME} {p pos tpos : Pos} {elts : List Expr} {kk : Nat} (hg : Gl X "enumerate") (hm : X.mg "enumerate" = none) (h : SE X CA W e m) (hs : starEach [e] X.env = [(false, eval e X.env)] := by rfl)
    (h1 : starEach [e] X.env = (false, eval e X.env) :: starEach [] X.env := by rfl) : SI X CA W (.Tuple elts kk tpos) (.Call (.Name "enumerate" p) [e] [] pos) (iEnM m) := by
  obtain ⟨te, t1, t2⟩ := h.dat
  refine ⟨_, pi_enumT hg hm (pa_cons t1 pa_nil h1) hs, fun ρ bx F μ σ H R s n o => ?_⟩
  show te σ H fun x H1 => ∃ a xs, [x] = [V.ref a] ∧ SqT X.K H1 a xs ∧ R (Iet X.K a) H1
  refine t2 ρ bx F μ σ H _ s n ?_
  unfold iEnM at o
  cases q : m ρ bx with
  | stk => rw [q] at o; exact o.elim
  | exn c ns ds b => rw [q] at o; exact o
  | ok r b =>
    rw [q] at o
    intro v F1 H1 e1 s1 rr
    simp only [Out.bind_ok] at o
    cases rd : r.d with
    | tup ds =>
      rw [rd] at rr o
      obtain ⟨a, vs, q1, q2, q3⟩ := rr
      subst q1
      refine ⟨a, vs, rfl, q2.sq, o _ F1 H1 e1 s1 fun i F2 μ2 H2 bx2 e2 s2 => ?_⟩
      have q4 : SqT X.K H2 a vs := (q2.mono e2.up (s1.stayM e2)).sq
      refine ⟨fun d hd => ?_, fun hd => ⟨vs, q4, by rw [hd, pairs_len, q3.length]⟩⟩
      rw [pairs_get] at hd
      obtain ⟨d0, h2, rfl⟩ := Option.map_eq_some_iff.mp hd
      obtain ⟨v', v1, v2⟩ := q3.get h2
      refine ⟨⟨vs, v', q4, v1⟩, fun x H' y => ?_⟩
      obtain ⟨T, x', rfl, hT, rfl, y2⟩ := y
      have := y2 vs q4
      rw [v1] at this; cases this
      have e3 := Ext.new (o := .tup [.int (i : Nat), v']) s2 hT
      refine ⟨_, e3, s2.new hT, T, [.int (i : Nat), v'], rfl, .inl ⟨.inr rfl, upd_same⟩, ?_⟩
      have : ((0 + i : Nat) : Int) = (i : Int) := by omega
      rw [this]
      exact ⟨rfl, (v2.extM s1 e2).ext s2 e3, trivial⟩
    | _ => rw [rd] at o; exact o.elim
end DL
namespace DL
open PySem PySem.Spec L2
/-! ### dict displays -/
def mDic (ks : List Key) (ds : List D) : ME := fun _ bx => .ok (.new (.dk ks ds)) bx
theorem okD {X : Cx} {CA : Ly} {W : WX} {F : Addr → Prop} {μ : List Addr} {σ : L2.St} {H : Hp} {bx : List D} {ks : List Key} {ds : List D} {vs : List V} {Q : VK} (o : OkG X.K CA W F μ σ H (fun F' H' => RRv X.K CA F' μ H H') (.ok (.new (.dk ks ds)) bx) Q) (s : Sx X.K CA F μ H bx)
    (hl : ks.length = ds.length) (r : ∀ F μ H, Rps X.K CA F μ H ds vs) : ∀ p, H p = none → Q (.ref p) (upd H p (.dK (ks.zip vs))) := fun p hp => by
  have e2 := Ext.tmp (F := F) (μ := μ) (o := .dK (ks.zip vs)) hp
  exact o (.ref p) F _ e2 (s.tmp hp) ⟨p, rfl, .of hp, s.notIn hp, s.notF hp, vs, upd_same, hl, r _ _ _⟩
theorem se_dic0 {X : Cx} {CA : Ly} {W : WX} {pos : Pos} : SE X CA W (.Dict [] [] pos) (mDic [] []) :=
  ⟨_, pe_dnewK, fun ρ bx F μ σ H Q s n o => okD (vs := []) o s rfl fun _ _ _ => trivial⟩
theorem se_dic1 {X : Cx} {CA : Ly} {W : WX} {pos p1 p2 : Pos} {i k : Int} {j1 j2 : Nat} : SE X CA W (.Dict [some (.Constant (.int i) j1 p1)] [.Constant (.int k) j2 p2] pos) (mDic [.inl i] [.int k]) := by
  refine ⟨_, pe_disp (pps_cons pe_int pe_int pps_nil) rfl rfl (by simp) (by simp), fun ρ bx F μ σ H Q s n o p hp => ?_⟩
  refine ⟨upd_same, [(.inl i, .int k)], rfl, by simp, ?_⟩
  have e : upd (upd H p (.dK [])) p (.dK (mergeK [] [(.inl i, .int k)])) = upd H p (.dK [(.inl i, .int k)]) := by
    funext a
    by_cases h : a = p
    · subst h; rw [upd_same, upd_same]; rfl
    · rw [upd_ne h, upd_ne h, upd_ne h]
  rw [e]
  exact okD (vs := [.int k]) o s rfl (fun _ _ _ => ⟨rfl, trivial⟩) p hp
end DL
namespace DL
open PySem PySem.Spec L2
/-! ### a, b = x, y -/
section
variable {X : Cx} {CA : Ly} {W : WX} {a b c : Expr} {px py pz pt pos : Pos} {x y z : Str} {kt k2 : Nat} {pt2 : Pos}
def mPar2 (i j : Nat) (m : MA) : MS := fun ρ bx => liftE (m ρ bx) ρ fun ds b => match ds with
  | [u, v] => .nx ((ρ.set i (some u)).set j (some v)) b
  | _ => .stk
def mPar3 (i j l : Nat) (m : MA) : MS := fun ρ bx => liftE (m ρ bx) ρ fun ds b => match ds with
  | [u, v, w] => .nx (((ρ.set i (some u)).set j (some v)).set l (some w)) b
  | _ => .stk
theorem ss_par2 (i j : Nat) {m : MA} (hc : X.calm = true) (hN : X.N.Nodup) (ha : SA X CA W [a, b] m) (hij : i ≠ j := by decide) (hi : X.N[i]? = some x := by rfl) (hj : X.N[j]? = some y := by rfl)
    (hx : X.env.scope.names.lookup x = some .local := by rfl) (hy : X.env.scope.names.lookup y = some .local := by rfl)
    (hw : swappedStores [.Tuple [.Name x px, .Name y py] kt pt] (.Tuple [a, b] k2 pt2) X.env = pure (some [x, y]) := by rfl)
    (hs : swapsWithSole [.Tuple [.Name x px, .Name y py] kt pt] (.Tuple [a, b] k2 pt2) pos.line X.env = pure false := by rfl) :
    SS X CA W (.Assign [.Tuple [.Name x px, .Name y py] kt pt] (.Tuple [a, b] k2 pt2) pos) (mPar2 i j m) := by
  obtain ⟨t, t1, t2⟩ := ha.ex
  refine ⟨_, ps_par hc hN hi hj hij hx hy t1 hw hs, fun ρ bx F μ σ H D s n o => t2 ρ bx F μ σ H _ s n ?_⟩
  unfold mPar2 at o
  cases q : m ρ bx with
  | stk => rw [q] at o; exact o.elim
  | exn c ns ds b => rw [q] at o; exact fun cls dx F' H' e' s' x => o cls dx σ F' μ H' e'.m s' (n.ext s e') x
  | ok ds b =>
    rw [q] at o
    intro vs F1 H1 e1 s1 rs
    match ds, vs, rs, o with
    | [u, v], [u', v'], ⟨ru, rv, _⟩, o => exact ⟨u', v', rfl, o _ F1 μ H1 e1.m s1 (((n.ext s e1).set ru).set rv)⟩
    | [], _, _, o => exact o.elim
    | [_], _, _, o => exact o.elim
    | _ :: _ :: _ :: _, _, _, o => exact o.elim
    | [_, _], [], r, _ => exact r.elim
    | [_, _], [_], r, _ => exact r.2.elim
    | [_, _], _ :: _ :: _ :: _, r, _ => exact r.2.2.elim
theorem ss_par3 (i j l : Nat) {m : MA} (hc : X.calm = true) (hN : X.N.Nodup) (ha : SA X CA W [a, b, c] m) (hij : i ≠ j := by decide) (hil : i ≠ l := by decide) (hjl : j ≠ l := by decide) (hi : X.N[i]? = some x := by rfl) (hj : X.N[j]? = some y := by rfl) (hl : X.N[l]? = some z := by rfl)
    (hx : X.env.scope.names.lookup x = some .local := by rfl) (hy : X.env.scope.names.lookup y = some .local := by rfl) (hz : X.env.scope.names.lookup z = some .local := by rfl)
    (hw : swappedStores [.Tuple [.Name x px, .Name y py, .Name z pz] kt pt] (.Tuple [a, b, c] k2 pt2) X.env = pure (some [x, y, z]) := by rfl)
    (hs : swapsWithSole [.Tuple [.Name x px, .Name y py, .Name z pz] kt pt] (.Tuple [a, b, c] k2 pt2) pos.line X.env = pure false := by rfl) :
    SS X CA W (.Assign [.Tuple [.Name x px, .Name y py, .Name z pz] kt pt] (.Tuple [a, b, c] k2 pt2) pos) (mPar3 i j l m) := by
  obtain ⟨t, t1, t2⟩ := ha.ex
  refine ⟨_, ps_par3 hc hN hi hj hl hij hil hjl hx hy hz t1 hw hs, fun ρ bx F μ σ H D s n o => t2 ρ bx F μ σ H _ s n ?_⟩
  unfold mPar3 at o
  cases q : m ρ bx with
  | stk => rw [q] at o; exact o.elim
  | exn c ns ds b => rw [q] at o; exact fun cls dx F' H' e' s' x => o cls dx σ F' μ H' e'.m s' (n.ext s e') x
  | ok ds b =>
    rw [q] at o
    intro vs F1 H1 e1 s1 rs
    match ds, vs, rs, o with
    | [u, v, w], [u', v', w'], ⟨ru, rv, rw, _⟩, o => exact ⟨u', v', w', rfl, o _ F1 μ H1 e1.m s1 ((((n.ext s e1).set ru).set rv).set rw)⟩
    | [], _, _, o => exact o.elim
    | [_], _, _, o => exact o.elim
    | [_, _], _, _, o => exact o.elim
    | _ :: _ :: _ :: _ :: _, _, _, o => exact o.elim
    | [_, _, _], [], r, _ => exact r.elim
    | [_, _, _], [_], r, _ => exact r.2.elim
    | [_, _, _], [_, _], r, _ => exact r.2.2.elim
    | [_, _, _], _ :: _ :: _ :: _ :: _, r, _ => exact r.2.2.2.elim
end
end DL

set_option Elab.async false
set_option linter.all false
set_option maxRecDepth 100000
set_option maxHeartbeats 4000000
namespace K0
open PySem PySem.Spec L2 DL
def top (i : Nat) : Stmt := PySem.Challenge.pw_speakanew_k00_sets_of_stretches_and_sets.main.body.getD i (.Pass ⟨0, 0, 0, 0⟩)
def gn : List PySem.Str := ["is_integer", "higher_low", "lower_high", "higher_high", "is_empty", "joined", "common", "outside", "has_number", "Ranges", "_law_pen", "_law_draw", "_law_end", "_law_stretches", "_law_has", "_law_points", "_law_is_joined", "_law_made", "_law_same", "_law_is_right", "_law_alike", "_law_part_one", "_law_draw_b", "_law_end_b", "_law_stretches_b", "_law_made_b", "_law_near", "_law_outcome_right", "_law_is_less", "_law_part_two", "law"]
def bn : List PySem.Str := ["len", "abs", "int", "bool", "list", "tuple", "any", "max", "min", "isinstance", "range", "enumerate", "sorted", "str"]
/-- a def: where it stands, its name, qualified name -/
def df (a : PySem.Str × Option PySem.Str) (x q : PySem.Str) (s : Stmt) : He.DefD := ⟨a, x, q, defArgs s, defBody s, defScope s, [], []⟩
def defs : List He.DefD := [df ("is_integer", none) "is_integer" "is_integer" (top 2),
  df ("higher_low", none) "higher_low" "higher_low" (top 3),
  df ("lower_high", none) "lower_high" "lower_high" (top 4),
  df ("higher_high", none) "higher_high" "higher_high" (top 5),
  df ("is_empty", none) "is_empty" "is_empty" (top 6),
  df ("joined", none) "joined" "joined" (top 7),
  df ("common", none) "common" "common" (top 8),
  df ("outside", none) "outside" "outside" (top 9),
  df ("has_number", none) "has_number" "has_number" (top 10),
  df ("Ranges", some "__init__") "__init__" "Ranges.__init__" (((C8.clsBody (top 11)).getD 0 (.Pass ⟨0, 0, 0, 0⟩))),
  df ("Ranges", some "__or__") "__or__" "Ranges.__or__" (((C8.clsBody (top 11)).getD 5 (.Pass ⟨0, 0, 0, 0⟩))),
  df ("Ranges", some "__and__") "__and__" "Ranges.__and__" (((C8.clsBody (top 11)).getD 6 (.Pass ⟨0, 0, 0, 0⟩))),
  df ("Ranges", some "__sub__") "__sub__" "Ranges.__sub__" (((C8.clsBody (top 11)).getD 7 (.Pass ⟨0, 0, 0, 0⟩))),
  df ("Ranges", some "__eq__") "__eq__" "Ranges.__eq__" (((C8.clsBody (top 11)).getD 8 (.Pass ⟨0, 0, 0, 0⟩))),
  df ("Ranges", some "__contains__") "__contains__" "Ranges.__contains__" (((C8.clsBody (top 11)).getD 9 (.Pass ⟨0, 0, 0, 0⟩))),
  df ("Ranges", some "__bool__") "__bool__" "Ranges.__bool__" (((C8.clsBody (top 11)).getD 10 (.Pass ⟨0, 0, 0, 0⟩))),
  df ("Ranges", some "is_within") "is_within" "Ranges.is_within" (((C8.clsBody (top 11)).getD 11 (.Pass ⟨0, 0, 0, 0⟩))),
  df ("_law_pen", none) "_law_pen" "_law_pen" (top 13),
  df ("_law_draw", none) "_law_draw" "_law_draw" (top 14),
  df ("_law_end", none) "_law_end" "_law_end" (top 15),
  df ("_law_stretches", none) "_law_stretches" "_law_stretches" (top 16),
  df ("_law_has", none) "_law_has" "_law_has" (top 17),
  df ("_law_points", none) "_law_points" "_law_points" (top 18),
  df ("_law_is_joined", none) "_law_is_joined" "_law_is_joined" (top 19),
  df ("_law_made", none) "_law_made" "_law_made" (top 20),
  df ("_law_same", none) "_law_same" "_law_same" (top 21),
  df ("_law_is_right", none) "_law_is_right" "_law_is_right" (top 22),
  df ("_law_alike", none) "_law_alike" "_law_alike" (top 23),
  df ("_law_part_one", none) "_law_part_one" "_law_part_one" (top 24),
  df ("_law_draw_b", none) "_law_draw_b" "_law_draw_b" (top 25),
  df ("_law_end_b", none) "_law_end_b" "_law_end_b" (top 26),
  df ("_law_stretches_b", none) "_law_stretches_b" "_law_stretches_b" (top 27),
  df ("_law_made_b", none) "_law_made_b" "_law_made_b" (top 28),
  df ("_law_near", none) "_law_near" "_law_near" (top 29),
  df ("_law_outcome_right", none) "_law_outcome_right" "_law_outcome_right" (top 30),
  df ("_law_is_less", none) "_law_is_less" "_law_is_less" (top 31),
  df ("_law_part_two", none) "_law_part_two" "_law_part_two" (top 32),
  df ("law", none) "law" "law" (top 33)]
/-- the class methods' defs -/
def dcms : List He.DefD := [df ("Ranges", some "of") "of" "Ranges.of" (((C8.clsBody (top 11)).getD 1 (.Pass ⟨0, 0, 0, 0⟩))),
  df ("Ranges", some "between") "between" "Ranges.between" (((C8.clsBody (top 11)).getD 2 (.Pass ⟨0, 0, 0, 0⟩))),
  df ("Ranges", some "full") "full" "Ranges.full" (((C8.clsBody (top 11)).getD 3 (.Pass ⟨0, 0, 0, 0⟩))),
  df ("Ranges", some "empty") "empty" "Ranges.empty" (((C8.clsBody (top 11)).getD 4 (.Pass ⟨0, 0, 0, 0⟩)))]
/-- the def of a class method -/
def cmA (K : PySem.W.Frag) (c m : PySem.Str) : Addr := match PySem.W.findIn K (.ref (He.ga K c)) m with
  | some (some (.ref p)) => (match PySem.W.recIn K p "classmethod" with
    | some (.ref g :: _) => g
    | _ => 0)
  | _ => 0
def tabI (a b : Nat) : Bool := decide (a = b) || (decide (a = 1) && decide (b = 2))
abbrev cJ (K : PySem.W.Frag) : Addr := He.codeOf K ("joined", none)
abbrev pJ (K : PySem.W.Frag) : Addr := He.tabOf K (cJ K)
abbrev mtA (K : PySem.W.Frag) (m : PySem.Str) : Addr := He.fAd K ("Ranges", some m)
def meths : List PySem.Str := ["__or__", "__and__", "__sub__", "__eq__", "__contains__", "__bool__", "is_within"]
def cms : List PySem.Str := ["of", "between", "full", "empty"]
/-- what the top leaves -/
structure Ht (K : PySem.W.Frag) (mg : PySem.Str → Option Value) (base : Heap) (CA : Ly) : Prop where
  glo : ∀ x ∈ gn, mg x = some (.ref (He.ga K x))
  free : ∀ x ∈ bn, mg x = none
  kps : ∀ x ∈ gn, PySem.W.keepIn K (.ref (He.ga K x)) = true
  dfs : ∀ d ∈ defs, ∃ fd, FunD K d.name d.qual d.params d.body d.scope [] [] (He.fAd K d.at_) fd
  dcs : ∀ d ∈ dcms, ∀ m, d.at_.2 = some m → ∃ fd, FunD K d.name d.qual d.params d.body d.scope [] [] (cmA K d.at_.1 m) fd
  c0 : CA 0 = He.ga K "Ranges"
  kc : KC K (CA 0)
  mkr : Mk K (CA 0) (mtA K "__init__")
  na : NoAttr K (CA 0) "parts"
  fds : ∀ m ∈ meths, PySem.W.findIn K (.ref (CA 0)) m = some (some (.ref (mtA K m)))
  ffs : ∀ m ∈ meths, PySem.W.isFn K (.ref (mtA K m)) = true
  mts : ∀ m ∈ meths, Meth K (CA 0) m (mtA K m)
  sf : PySem.W.selfFirst K (CA 0) = true
  eq : EqC K CA [0] (CA 0) (mtA K "__eq__")
  kit : ∀ a ∈ codes [0], ∀ b ∈ codes [0], PySem.W.kitOne K (tcV CA a) (tcV CA b) = some (tabI a b)
  cr : ClX.CRead K (CA 0) (.type "type")
  cmx : ∀ m ∈ cms, ∃ p, ClX.CMet K (CA 0) (.type "type") m p (cmA K "Ranges" m)
  tb : LamX.TabB base mg (cJ K) (pJ K)
  tab : CA.tb = [(pJ K, ("joined" : PySem.Str) ++ ".<locals>." ++ "<lambda>")]
section
variable {K : PySem.W.Frag} {mg : PySem.Str → Option Value} {base : Heap} {CA : Ly}
theorem Ht.g (h : Ht K mg base CA) (i : Nat) {x : PySem.Str} (e : gn[i]? = some x := by rfl) : mg x = some (.ref (He.ga K x)) := h.glo x (List.mem_of_getElem? e)
theorem Ht.b (h : Ht K mg base CA) (i : Nat) {x : PySem.Str} (e : bn[i]? = some x := by rfl) : mg x = none := h.free x (List.mem_of_getElem? e)
theorem Ht.kp (h : Ht K mg base CA) (i : Nat) {x : PySem.Str} (e : gn[i]? = some x := by rfl) : PySem.W.keepIn K (.ref (He.ga K x)) = true := h.kps x (List.mem_of_getElem? e)
theorem Ht.fd (h : Ht K mg base CA) (i : Nat) {x : PySem.Str} (e : meths[i]? = some x := by rfl) : PySem.W.findIn K (.ref (CA 0)) x = some (some (.ref (mtA K x))) := h.fds x (List.mem_of_getElem? e)
theorem Ht.ff (h : Ht K mg base CA) (i : Nat) {x : PySem.Str} (e : meths[i]? = some x := by rfl) : PySem.W.isFn K (.ref (mtA K x)) = true := h.ffs x (List.mem_of_getElem? e)
theorem Ht.mt (h : Ht K mg base CA) (i : Nat) {x : PySem.Str} (e : meths[i]? = some x := by rfl) : Meth K (CA 0) x (mtA K x) := h.mts x (List.mem_of_getElem? e)
theorem Ht.kcs (h : Ht K mg base CA) : ∀ c ∈ [0], KC K (CA c) := fun c hc => by simp at hc; exact hc ▸ h.kc
theorem Ht.nas (h : Ht K mg base CA) : ∀ c ∈ [0], Cls K (CA c) ∧ NoAttr K (CA c) "parts" := fun c hc => by simp at hc; exact hc ▸ ⟨h.kc.cl, h.na⟩
theorem Ht.cl (h : Ht K mg base CA) : Cls K (CA 0) := h.kc.cl
theorem Ht.gC (h : Ht K mg base CA) : mg "Ranges" = some (.ref (CA 0)) := by rw [h.c0]; exact h.g 9
theorem Ht.cm (h : Ht K mg base CA) (i : Nat) {x : PySem.Str} (e : cms[i]? = some x := by rfl) : ClX.CMet K (CA 0) (.type "type") x (Classical.choose (h.cmx x (List.mem_of_getElem? e))) (cmA K "Ranges" x) := Classical.choose_spec (h.cmx x (List.mem_of_getElem? e))
theorem Ht.tT (h : Ht K mg base CA) : (pJ K, ("joined" : PySem.Str) ++ ".<locals>." ++ "<lambda>") ∈ CA.tb := by rw [h.tab]; simp
theorem Ht.tu (h : Ht K mg base CA) : ∀ p ∈ CA.tb, p.1 = pJ K → p.2 = ("joined" : PySem.Str) ++ ".<locals>." ++ "<lambda>" := fun p hp _ => by rw [h.tab] at hp; simp at hp; rw [hp]
theorem Ht.fn (h : Ht K mg base CA) (i : Nat) {d : He.DefD} (e : defs[i]? = some d := by rfl) : ∃ fd, FunD K d.name d.qual d.params d.body d.scope [] [] (He.fAd K d.at_) fd := h.dfs d (List.mem_of_getElem? e)
theorem Ht.fc (h : Ht K mg base CA) (i : Nat) {d : He.DefD} {m : PySem.Str} (e : dcms[i]? = some d := by rfl) (e2 : d.at_.2 = some m := by rfl) : ∃ fd, FunD K d.name d.qual d.params d.body d.scope [] [] (cmA K d.at_.1 m) fd := h.dcs d (List.mem_of_getElem? e) m e2
end
/-- a def whose code object is known -/
theorem sf_lam {P : Program} {w : World} {K : PySem.W.Frag} {mg : PySem.Str → Option Value} {base : Heap} {CA : Ly} {x qual : PySem.Str} {params : Arguments} {st : List Stmt} {scope : Scope} {dvs : List V} {kws : List (PySem.Str × V)} {a : PySem.Str × Option PySem.Str} {fd : FuncData} {N ps : List PySem.Str} {k : Nat} {ms : MS}
    (F : FunD K x qual params st scope dvs kws (He.fAd K a) fd) (S : FnScope N ps scope)
    (hb : ∀ (cdv : Value), cdv = .ref (He.codeOf K a) → ∀ (A : Around) (outer : List Env) (s : Shared) (H : Hp) (E : XK), Room k (A.deeper (PyProof.Rows.envOfC qual scope s.heap.objs.size (He.fAd K a) cdv)) → Frm (cxOf (L2.CX P w) P w K mg base N qual scope (He.fAd K a) cdv A outer s H E) (fun cls d _ H => E cls d H) →
      SB (cxOf (L2.CX P w) P w K mg base N qual scope (He.fAd K a) cdv A outer s H E) CA (fun cls d _ H => E cls d H) st ms) :
    FnOk P w K mg base (L2.CX P w) (k + 1) (He.fAd K a) fd ps (spM K CA ps.length (body N.length ms)) := by
  have hpl : ps.length ≤ N.length := by have := congrArg List.length S.pre; rw [List.length_take] at this; omega
  obtain ⟨oc, od, dV, kV, doc, pm, an, cdv, ct, osl, rfl, lk, hcd, _, _⟩ := F.ex
  obtain ⟨c, rfl⟩ := He.codeIn_ref hcd
  have e := He.codeOf_eq lk rfl
  refine fn_of lk hcd S (fun vs H Q E h => h.len) fun A outer s H vs Q E hr h => ?_
  exact body_ok hpl (hb _ (by rw [e]) A outer s H E hr ⟨takes_of rfl rfl rfl rfl, passes_of rfl, rfl⟩) h
/-- def f(a, .., *v) -/
theorem sf_star {P : Program} {w : World} {K : PySem.W.Frag} {mg : PySem.Str → Option Value} {base : Heap} {CA : Ly} {x qual pv : PySem.Str} {params : Arguments} {st : List Stmt} {scope : Scope} {kws : List (PySem.Str × V)} {f : Addr} {fd : FuncData} {N ps : List PySem.Str} {k : Nat} {ms : MS}
    (F : FunD K x qual params st scope [] kws f fd) (S : FnScope N (ps ++ [pv]) scope)
    (hB : ∀ (kV doc pm : Value) (an : Option Addr) (cdv ct : Value) (us rest : List Value), us.length = ps.length → bindArgs (PySem.W.fnOf x qual params st scope .none kV doc pm an cdv ct) ⟨us ++ rest, []⟩ = (newTuple rest >>= fun t => pure (ps.zip us ++ [(pv, t)])))
    (hb : ∀ (cdv : Value) (A : Around) (outer : List Env) (s : Shared) (H : Hp) (E : XK), Room k (A.deeper (PyProof.Rows.envOfC qual scope s.heap.objs.size f cdv)) → Frm (cxOf (L2.CX P w) P w K mg base N qual scope f cdv A outer s H E) (fun cls d _ H => E cls d H) →
      SB (cxOf (L2.CX P w) P w K mg base N qual scope f cdv A outer s H E) CA (fun cls d _ H => E cls d H) st ms) :
    FnR P w K mg base (L2.CX P w) (k + 1) f (spR K CA (starA ps.length (body N.length ms))) := by
  have hpl : (ps ++ [pv]).length ≤ N.length := by have := congrArg List.length S.pre; rw [List.length_take] at this; omega
  obtain ⟨oc, od, dV, kV, doc, pm, an, cdv, ct, osl, rfl, lk, hcd, hD, _⟩ := F.ex
  rcases hD with ⟨_, rfl⟩ | ⟨e, _⟩
  · refine fn_starR (StX.fn_star (sp := spM K CA (ps.length + 1) (body N.length ms)) lk hcd S StX.cxUp (fun us rest hl => hB kV doc pm an cdv ct us rest hl) fun A outer s H vs Q E hr h => ?_)
    have h2 : spM K CA (ps ++ [pv]).length (body N.length ms) vs H Q E := by simpa using h
    exact body_ok hpl (hb cdv A outer s H E hr ⟨takes_of rfl rfl rfl rfl, passes_of rfl, rfl⟩) h2
  · exact absurd rfl e
section
variable {P : Program} {w : World} {K : PySem.W.Frag} {mg : PySem.Str → Option Value} {base : Heap} {CA : Ly}

abbrev s_is_integer : Stmt := top 2
def m_is_integer (CA : Ly) : MS :=
  (mRet (mAndV (mCB (un2 (isiD CA [0] tabI)) (aCons (mVar 0) (aCons (mC (.ty "int")) aNil))) (mNotV (mCB (un2 (isiD CA [0] tabI)) (aCons (mVar 0) (aCons (mC (.ty "bool")) aNil))))))
def g_is_integer (CA : Ly) : MF := body 1 (m_is_integer CA)
def r_is_integer (CA : Ly) : MF := ar 1 (g_is_integer CA)
theorem sc_is_integer : FnScope ["value"] ["value"] (defScope s_is_integer) := C8.fnScope_by (by decide +kernel)
theorem F_is_integer (h : Ht K mg base CA) : FnR P w K mg base (L2.CX P w) 1 (He.fAd K ("is_integer", none)) (spR K CA (r_is_integer CA)) := by
  obtain ⟨fd, FD⟩ := h.fn 0
  exact fn_all (sf_of FD sc_is_integer fun cdv A outer s H E hr fr =>
  (sb_one (ss_ret (se_and (se_callB (dc_isi h.kcs h.kit) (by rfl) (h.b 9) (by rfl) (sa_cons (se_var (i := 0)) (sa_cons (se_ty (by rfl) (h.b 2) (by rfl)) sa_nil))) (se_one (se_not (se_callB (dc_isi h.kcs h.kit) (by rfl) (h.b 9) (by rfl) (sa_cons (se_var (i := 0)) (sa_cons (se_ty (by rfl) (h.b 3) (by rfl)) sa_nil))))))))) (FD.bindsN fun _ _ _ _ _ _ us hl => match us, hl with | [_], _ => rfl)
abbrev s_higher_low : Stmt := top 3
def m_higher_low (CA : Ly) : MS :=
  (mSeq (mIfS (mTest (mUn isN (mVar 0))) (mRet (mVar 1)) mSkip)
  (mRet (mIf (mTest (mUn isN (mVar 1))) (mVar 0) (mCB (un1 maxL) (aCons (mLst (aCons (mVar 0) (aCons (mVar 1) aNil))) aNil)))))
def g_higher_low (CA : Ly) : MF := body 2 (m_higher_low CA)
def r_higher_low (CA : Ly) : MF := ar 2 (g_higher_low CA)
theorem sc_higher_low : FnScope ["one", "other"] ["one", "other"] (defScope s_higher_low) := C8.fnScope_by (by decide +kernel)
theorem F_higher_low (h : Ht K mg base CA) : FnR P w K mg base (L2.CX P w) 1 (He.fAd K ("higher_low", none)) (spR K CA (r_higher_low CA)) := by
  obtain ⟨fd, FD⟩ := h.fn 1
  exact fn_all (sf_of FD sc_higher_low fun cdv A outer s H E hr fr =>
  (sb_cons (ss_if (st_isN (se_var (i := 0))) (sb_one (ss_ret (se_var (i := 1)))) sb_nil)
  (sb_one (ss_ret (se_if (st_isN (se_var (i := 1))) (se_var (i := 0)) (se_callB (dc_maxL fr.calm) (by rfl) (h.b 7) (by rfl) (sa_cons (se_lst (sa_cons (se_var (i := 0)) (sa_cons (se_var (i := 1)) sa_nil))) sa_nil))))))) (FD.bindsN fun _ _ _ _ _ _ us hl => match us, hl with | [_, _], _ => rfl)
abbrev s_lower_high : Stmt := top 4
def m_lower_high (CA : Ly) : MS :=
  (mSeq (mIfS (mTest (mUn isN (mVar 0))) (mRet (mVar 1)) mSkip)
  (mRet (mIf (mTest (mUn isN (mVar 1))) (mVar 0) (mCB (un1 minL) (aCons (mLst (aCons (mVar 0) (aCons (mVar 1) aNil))) aNil)))))
def g_lower_high (CA : Ly) : MF := body 2 (m_lower_high CA)
def r_lower_high (CA : Ly) : MF := ar 2 (g_lower_high CA)
theorem sc_lower_high : FnScope ["one", "other"] ["one", "other"] (defScope s_lower_high) := C8.fnScope_by (by decide +kernel)
theorem F_lower_high (h : Ht K mg base CA) : FnR P w K mg base (L2.CX P w) 1 (He.fAd K ("lower_high", none)) (spR K CA (r_lower_high CA)) := by
  obtain ⟨fd, FD⟩ := h.fn 2
  exact fn_all (sf_of FD sc_lower_high fun cdv A outer s H E hr fr =>
  (sb_cons (ss_if (st_isN (se_var (i := 0))) (sb_one (ss_ret (se_var (i := 1)))) sb_nil)
  (sb_one (ss_ret (se_if (st_isN (se_var (i := 1))) (se_var (i := 0)) (se_callB (dc_minL fr.calm) (by rfl) (h.b 8) (by rfl) (sa_cons (se_lst (sa_cons (se_var (i := 0)) (sa_cons (se_var (i := 1)) sa_nil))) sa_nil))))))) (FD.bindsN fun _ _ _ _ _ _ us hl => match us, hl with | [_, _], _ => rfl)
abbrev s_higher_high : Stmt := top 5
def m_higher_high (CA : Ly) : MS :=
  (mRet (mIf (mOr (mTest (mUn isN (mVar 0))) (mTest (mUn isN (mVar 1)))) (mC .non) (mCB (un1 maxL) (aCons (mLst (aCons (mVar 0) (aCons (mVar 1) aNil))) aNil))))
def g_higher_high (CA : Ly) : MF := body 2 (m_higher_high CA)
def r_higher_high (CA : Ly) : MF := ar 2 (g_higher_high CA)
theorem sc_higher_high : FnScope ["one", "other"] ["one", "other"] (defScope s_higher_high) := C8.fnScope_by (by decide +kernel)
theorem F_higher_high (h : Ht K mg base CA) : FnR P w K mg base (L2.CX P w) 1 (He.fAd K ("higher_high", none)) (spR K CA (r_higher_high CA)) := by
  obtain ⟨fd, FD⟩ := h.fn 3
  exact fn_all (sf_of FD sc_higher_high fun cdv A outer s H E hr fr =>
  (sb_one (ss_ret (se_if (SW.st' (sw_or (st_isN (se_var (i := 0))) (sw_or1 (st_isN (se_var (i := 1)))))) se_non (se_callB (dc_maxL fr.calm) (by rfl) (h.b 7) (by rfl) (sa_cons (se_lst (sa_cons (se_var (i := 0)) (sa_cons (se_var (i := 1)) sa_nil))) sa_nil)))))) (FD.bindsN fun _ _ _ _ _ _ us hl => match us, hl with | [_, _], _ => rfl)
abbrev s_is_empty : Stmt := top 6
def m_is_empty (CA : Ly) : MS :=
  (mRet (mAndV (mUn notN (mVar 0)) (mAndV (mUn notN (mVar 1)) (mBin gtI (mVar 0) (mVar 1)))))
def g_is_empty (CA : Ly) : MF := body 2 (m_is_empty CA)
def r_is_empty (CA : Ly) : MF := ar 2 (g_is_empty CA)
theorem sc_is_empty : FnScope ["low", "high"] ["low", "high"] (defScope s_is_empty) := C8.fnScope_by (by decide +kernel)
theorem F_is_empty (h : Ht K mg base CA) : FnR P w K mg base (L2.CX P w) 1 (He.fAd K ("is_empty", none)) (spR K CA (r_is_empty CA)) := by
  obtain ⟨fd, FD⟩ := h.fn 4
  exact fn_all (sf_of FD sc_is_empty fun cdv A outer s H E hr fr =>
  (sb_one (ss_ret (se_and (se_notN (se_var (i := 0))) (se_and (se_notN (se_var (i := 1))) (se_one (se_cmp dop_gtI (se_var (i := 0)) (se_var (i := 1)) (by rfl)))))))) (FD.bindsN fun _ _ _ _ _ _ us hl => match us, hl with | [_, _], _ => rfl)
abbrev s_joined : Stmt := top 7
def m_joined (CA : Ly) : MS :=
  (mSeq (mBox (mLst aNil) 1)
  (mSeq (mFor (iSeq (mSortLow (mVar 0))) (gTup [(gN 2), (gN 3)]) (mIfS (mAnd (mTest (mBin neD (mVar 1) (mLst aNil))) (mOr (mTest (mUn isN (mVar 2))) (mOr (mTest (mUn isN (mBin ixD (mBin ixD (mVar 1) (mUn negI (mC (.int 1)))) (mC (.int 1))))) (mTest (mBin leI (mVar 2) (mBin addI (mBin ixD (mBin ixD (mVar 1) (mUn negI (mC (.int 1)))) (mC (.int 1))) (mC (.int 1)))))))) (mSetIx (mTup (aCons (mBin ixD (mBin ixD (mVar 1) (mUn negI (mC (.int 1)))) (mC (.int 0))) (aCons (mF (r_higher_high CA) (aCons (mBin ixD (mBin ixD (mVar 1) (mUn negI (mC (.int 1)))) (mC (.int 1))) (aCons (mVar 3) aNil))) aNil))) (mVar 1) (mUn negI (mC (.int 1)))) (mExpr (mBm appD (mVar 1) (aCons (mTup (aCons (mVar 2) (aCons (mVar 3) aNil))) aNil)))))
  (mRet (mCB (un1 tupD) (aCons (mVar 1) aNil)))))
def g_joined (CA : Ly) : MF := body 4 (m_joined CA)
def r_joined (CA : Ly) : MF := ar 1 (g_joined CA)
theorem sc_joined : FnScope ["stretches", "found", "low", "high"] ["stretches"] (defScope s_joined) := C8.fnScope_by (by decide +kernel)
theorem F_joined (h : Ht K mg base CA) : FnR P w K mg base (L2.CX P w) 2 (He.fAd K ("joined", none)) (spR K CA (r_joined CA)) := by
  obtain ⟨fd, FD⟩ := h.fn 5
  refine fn_all (sf_lam FD sc_joined fun cdv hcd A outer s H E hr fr =>
  (sb_cons (ss_box (i := 1) (se_lst sa_nil) sc_joined.nd)
  (sb_cons (ss_for fr (si_seq (se_sortLow (se_var (i := 0)) hr (by rfl) (h.b 12) h.tb hcd h.tT h.tu (by rfl) (by rfl) (by rfl) (fun _ _ _ _ => by rfl))) (sg_tup (gs := [(gN 2), (gN 3)]) fr.calm (sgs_cons (sg_name (i := 2) sc_joined.nd) (sgs_cons (sg_name (i := 3) sc_joined.nd) sgs_nil))) (sb_one (ss_if (SW.st' (sw_and (st_cmp (dop_neD hr.u64) (se_var (i := 1)) (se_lst sa_nil) (by rfl)) (sw_and1 (SW.st' (sw_or (st_isN (se_var (i := 2))) (sw_or (st_isN (se_ix (se_ix (se_var (i := 1)) (se_un dun_neg se_int)) se_int)) (sw_or1 (st_cmp dop_leI (se_var (i := 2)) (se_bin dop_addI (se_ix (se_ix (se_var (i := 1)) (se_un dun_neg se_int)) se_int) se_int) (by rfl))))))))) (sb_one (ss_setIx (se_tup (sa_cons (se_ix (se_ix (se_var (i := 1)) (se_un dun_neg se_int)) se_int) (sa_cons (se_callG (df_fn fr.tk (F_higher_high (P := P) (w := w) (base := base) h) (hr.mono (j := 1) (by decide)) (h.kp 3)) (by rfl) (h.g 3) (sa_cons (se_ix (se_ix (se_var (i := 1)) (se_un dun_neg se_int)) se_int) (sa_cons (se_var (i := 3)) sa_nil))) sa_nil))) (se_var (i := 1)) (se_un dun_neg se_int))) (sb_one (ss_expr (se_bm F.plainAttrs_list F.slot_list_append (by rfl) dml_append (se_var (i := 1)) (sa_cons (se_tup (sa_cons (se_var (i := 2)) (sa_cons (se_var (i := 3)) sa_nil))) sa_nil)))))))
  (sb_one (ss_ret (se_callTy dc_tuple (by rfl) (h.b 5) (by rfl) (sa_cons (se_var (i := 1)) sa_nil))))))) (FD.bindsN fun _ _ _ _ _ _ us hl => match us, hl with | [_], _ => rfl)
abbrev s_common : Stmt := top 8
def m_common (CA : Ly) : MS :=
  (mSeq (mBox (mLst aNil) 2)
  (mSeq (mFor (iSeq (mVar 0)) (gTup [(gN 3), (gN 4)]) (mFor (iSeq (mVar 1)) (gTup [(gN 5), (gN 6)]) (mSeq (mAsg (mTup (aCons (mF (r_higher_low CA) (aCons (mVar 3) (aCons (mVar 5) aNil))) (aCons (mF (r_lower_high CA) (aCons (mVar 4) (aCons (mVar 6) aNil))) aNil))) (gN 7))
    (mIfS (mNot (mTest (mF (r_is_empty CA) (aCons (mBin ixD (mVar 7) (mC (.int 0))) (aCons (mBin ixD (mVar 7) (mC (.int 1))) aNil))))) (mExpr (mBm appD (mVar 2) (aCons (mVar 7) aNil))) mSkip))))
  (mRet (mF (r_joined CA) (aCons (mVar 2) aNil)))))
def g_common (CA : Ly) : MF := body 8 (m_common CA)
def r_common (CA : Ly) : MF := ar 2 (g_common CA)
theorem sc_common : FnScope ["parts", "others", "found", "low", "high", "first", "last", "ends"] ["parts", "others"] (defScope s_common) := C8.fnScope_by (by decide +kernel)
theorem F_common (h : Ht K mg base CA) : FnR P w K mg base (L2.CX P w) 3 (He.fAd K ("common", none)) (spR K CA (r_common CA)) := by
  obtain ⟨fd, FD⟩ := h.fn 6
  exact fn_all (sf_of FD sc_common fun cdv A outer s H E hr fr =>
  (sb_cons (ss_box (i := 2) (se_lst sa_nil) sc_common.nd)
  (sb_cons (ss_for fr (si_seq (se_var (i := 0))) (sg_tup (gs := [(gN 3), (gN 4)]) fr.calm (sgs_cons (sg_name (i := 3) sc_common.nd) (sgs_cons (sg_name (i := 4) sc_common.nd) sgs_nil))) (sb_one (ss_for fr (si_seq (se_var (i := 1))) (sg_tup (gs := [(gN 5), (gN 6)]) fr.calm (sgs_cons (sg_name (i := 5) sc_common.nd) (sgs_cons (sg_name (i := 6) sc_common.nd) sgs_nil))) (sb_cons (ss_set (i := 7) (se_tup (sa_cons (se_callG (df_fn fr.tk (F_higher_low (P := P) (w := w) (base := base) h) (hr.mono (j := 1) (by decide)) (h.kp 1)) (by rfl) (h.g 1) (sa_cons (se_var (i := 3)) (sa_cons (se_var (i := 5)) sa_nil))) (sa_cons (se_callG (df_fn fr.tk (F_lower_high (P := P) (w := w) (base := base) h) (hr.mono (j := 1) (by decide)) (h.kp 2)) (by rfl) (h.g 2) (sa_cons (se_var (i := 4)) (sa_cons (se_var (i := 6)) sa_nil))) sa_nil))) sc_common.nd)
    (sb_one (ss_if (st_not (st_val (se_callG (df_fn fr.tk (F_is_empty (P := P) (w := w) (base := base) h) (hr.mono (j := 1) (by decide)) (h.kp 4)) (by rfl) (h.g 4) (sa_cons (se_ix (se_var (i := 7)) se_int) (sa_cons (se_ix (se_var (i := 7)) se_int) sa_nil))))) (sb_one (ss_expr (se_bm F.plainAttrs_list F.slot_list_append (by rfl) dml_append (se_var (i := 2)) (sa_cons (se_var (i := 7)) sa_nil)))) sb_nil))))))
  (sb_one (ss_ret (se_callG (df_fn fr.tk (F_joined (P := P) (w := w) (base := base) h) (hr.mono (j := 2) (by decide)) (h.kp 5)) (by rfl) (h.g 5) (sa_cons (se_var (i := 2)) sa_nil))))))) (FD.bindsN fun _ _ _ _ _ _ us hl => match us, hl with | [_, _], _ => rfl)
abbrev s_outside : Stmt := top 9
def m_outside (CA : Ly) : MS :=
  (mSeq (mBox (mLst aNil) 1)
  (mSeq (mAsg (mC .non) (gN 2))
  (mSeq (mFor (iSeq (mVar 0)) (gTup [(gN 3), (gN 4)]) (mSeq (mIfS (mTest (mUn notN (mVar 3))) (mExpr (mBm appD (mVar 1) (aCons (mTup (aCons (mVar 2) (aCons (mBin subI (mVar 3) (mC (.int 1))) aNil))) aNil))) mSkip)
   (mSeq (mIfS (mTest (mUn isN (mVar 4))) (mRet (mCB (un1 tupD) (aCons (mVar 1) aNil))) mSkip)
   (mAsg (mBin addI (mVar 4) (mC (.int 1))) (gN 2)))))
  (mRet (mCB (un1 tupD) (aCons (mBin addL (mVar 1) (mLst (aCons (mTup (aCons (mVar 2) (aCons (mC .non) aNil))) aNil))) aNil))))))
def g_outside (CA : Ly) : MF := body 5 (m_outside CA)
def r_outside (CA : Ly) : MF := ar 1 (g_outside CA)
theorem sc_outside : FnScope ["parts", "found", "low", "first", "last"] ["parts"] (defScope s_outside) := C8.fnScope_by (by decide +kernel)
theorem F_outside (h : Ht K mg base CA) : FnR P w K mg base (L2.CX P w) 1 (He.fAd K ("outside", none)) (spR K CA (r_outside CA)) := by
  obtain ⟨fd, FD⟩ := h.fn 7
  exact fn_all (sf_of FD sc_outside fun cdv A outer s H E hr fr =>
  (sb_cons (ss_box (i := 1) (se_lst sa_nil) sc_outside.nd)
  (sb_cons (ss_set (i := 2) se_non sc_outside.nd)
  (sb_cons (ss_for fr (si_seq (se_var (i := 0))) (sg_tup (gs := [(gN 3), (gN 4)]) fr.calm (sgs_cons (sg_name (i := 3) sc_outside.nd) (sgs_cons (sg_name (i := 4) sc_outside.nd) sgs_nil))) (sb_cons (ss_if (st_notN (se_var (i := 3))) (sb_one (ss_expr (se_bm F.plainAttrs_list F.slot_list_append (by rfl) dml_append (se_var (i := 1)) (sa_cons (se_tup (sa_cons (se_var (i := 2)) (sa_cons (se_bin dop_subI (se_var (i := 3)) se_int) sa_nil))) sa_nil)))) sb_nil)
   (sb_cons (ss_if (st_isN (se_var (i := 4))) (sb_one (ss_ret (se_callTy dc_tuple (by rfl) (h.b 5) (by rfl) (sa_cons (se_var (i := 1)) sa_nil)))) sb_nil)
   (sb_one (ss_set (i := 2) (se_bin dop_addI (se_var (i := 4)) se_int) sc_outside.nd)))))
  (sb_one (ss_ret (se_callTy dc_tuple (by rfl) (h.b 5) (by rfl) (sa_cons (se_bin dop_addL (se_var (i := 1)) (se_lst (sa_cons (se_tup (sa_cons (se_var (i := 2)) (sa_cons se_non sa_nil))) sa_nil))) sa_nil)))))))) (FD.bindsN fun _ _ _ _ _ _ us hl => match us, hl with | [_], _ => rfl)
abbrev s_has_number : Stmt := top 10
def m_has_number (CA : Ly) : MS :=
  (mRet (mCB (un1 anyD) (aCons (mComp (iSeq (mVar 0)) (([("low", 2), ("high", 3)] : List (PySem.Str × Nat)).map (·.2)) (gTup [(gN 2), (gN 3)]) mYes (mAndV (mOrV (mUn isN (mVar 2)) (mBin leI (mVar 2) (mVar 1))) (mOrV (mUn isN (mVar 3)) (mBin leI (mVar 1) (mVar 3))))) aNil)))
def g_has_number (CA : Ly) : MF := body 4 (m_has_number CA)
def r_has_number (CA : Ly) : MF := ar 2 (g_has_number CA)
theorem sc_has_number : FnScope ["parts", "number", "low", "high"] ["parts", "number"] (defScope s_has_number) := C8.fnScope_by (by decide +kernel)
theorem F_has_number (h : Ht K mg base CA) : FnR P w K mg base (L2.CX P w) 1 (He.fAd K ("has_number", none)) (spR K CA (r_has_number CA)) := by
  obtain ⟨fd, FD⟩ := h.fn 8
  exact fn_all (sf_of FD sc_has_number fun cdv A outer s H E hr fr =>
  (sb_one (ss_ret (se_callB (dc_any fr.calm) (by rfl) (h.b 6) (by rfl) (sa_cons (se_comp (own := [("low", 2), ("high", 3)]) fr.calm sc_has_number.nd (si_seq (se_var (i := 0))) (blkOk_by (by kernel_rfl)) (by decide) (fun s H C cl fp => (sg_tup (gs := [(gN 2), (gN 3)]) rfl (sgs_cons (sg_name (i := 2) sc_has_number.nd) (sgs_cons (sg_name (i := 3) sc_has_number.nd) sgs_nil)))) (fun s H C cl fp => pts_no) (fun s H C cl fp => (se_and (se_or (se_isN (se_var (i := 2))) (se_one (se_cmp dop_leI (se_var (i := 2)) (se_var (i := 1)) (by rfl)))) (se_one (se_or (se_isN (se_var (i := 3))) (se_one (se_cmp dop_leI (se_var (i := 1)) (se_var (i := 3)) (by rfl)))))))) sa_nil))))) (FD.bindsN fun _ _ _ _ _ _ us hl => match us, hl with | [_, _], _ => rfl)
abbrev s_Ranges___init__ : Stmt := ((C8.clsBody (top 11)).getD 0 (.Pass ⟨0, 0, 0, 0⟩))
def m_Ranges___init__ (CA : Ly) : MS :=
  (mSetF "parts" [0] (mF (r_joined CA) (aCons (mVar 1) aNil)) (mVar 0))
def g_Ranges___init__ (CA : Ly) : MF := body 2 (m_Ranges___init__ CA)
def r_Ranges___init__ (CA : Ly) : MF := ar 2 (g_Ranges___init__ CA)
theorem sc_Ranges___init__ : FnScope ["self", "stretches"] ["self", "stretches"] (defScope s_Ranges___init__) := C8.fnScope_by (by decide +kernel)
theorem F_Ranges___init__ (h : Ht K mg base CA) : FnR P w K mg base (L2.CX P w) 3 (He.fAd K ("Ranges", some "__init__")) (spR K CA (r_Ranges___init__ CA)) := by
  obtain ⟨fd, FD⟩ := h.fn 9
  exact fn_all (sf_of FD sc_Ranges___init__ fun cdv A outer s H E hr fr =>
  (sb_one (ss_setF (se_callG (df_fn fr.tk (F_joined (P := P) (w := w) (base := base) h) (hr.mono (j := 2) (by decide)) (h.kp 5)) (by rfl) (h.g 5) (sa_cons (se_var (i := 1)) sa_nil)) (se_var (i := 0)) h.nas))) (FD.bindsN fun _ _ _ _ _ _ us hl => match us, hl with | [_, _], _ => rfl)
abbrev s_Ranges_of : Stmt := ((C8.clsBody (top 11)).getD 1 (.Pass ⟨0, 0, 0, 0⟩))
def m_Ranges_of (CA : Ly) : MS :=
  (mRet (mFL 0 (CA 0) (mkD 0 (r_Ranges___init__ CA)) (aCons (mComp (iSeq (mVar 1)) (([("number", 2)] : List (PySem.Str × Nat)).map (·.2)) (gN 2) mYes (mTup (aCons (mVar 2) (aCons (mVar 2) aNil)))) aNil)))
def g_Ranges_of (CA : Ly) : MF := body 3 (m_Ranges_of CA)
def r_Ranges_of (CA : Ly) : MF := starA 1 (g_Ranges_of CA)
theorem sc_Ranges_of : FnScope ["cls", "numbers", "number"] ["cls", "numbers"] (defScope s_Ranges_of) := C8.fnScope_by (by decide +kernel)
theorem F_Ranges_of (h : Ht K mg base CA) : FnR P w K mg base (L2.CX P w) 5 (cmA K "Ranges" "of") (spR K CA (r_Ranges_of CA)) := by
  obtain ⟨fd, FD⟩ := h.fc 0
  exact sf_star (ps := ["cls"]) FD sc_Ranges_of (fun kV doc pm an cdv ct => StX.bind_star1 (B := fun us => bindArgs _ ⟨us, []⟩) (fun _ => rfl) fun _ _ _ => rfl) (fun cdv A outer s H E hr fr =>
  (sb_one (ss_ret (se_callL (i := 0) (df_mk (n := 0) fr.tk h.mkr (F_Ranges___init__ (P := P) (w := w) (base := base) h) (hr.mono (j := 4) (by decide))) (by rfl) (.inl (by rfl)) (sa_cons (se_comp (own := [("number", 2)]) fr.calm sc_Ranges_of.nd (si_seq (se_var (i := 1))) (blkOk_by (by kernel_rfl)) (by decide) (fun s H C cl fp => (sg_name (i := 2) sc_Ranges_of.nd)) (fun s H C cl fp => pts_no) (fun s H C cl fp => (se_tup (sa_cons (se_var (i := 2)) (sa_cons (se_var (i := 2)) sa_nil))))) sa_nil)))))
abbrev s_Ranges_between : Stmt := ((C8.clsBody (top 11)).getD 2 (.Pass ⟨0, 0, 0, 0⟩))
def m_Ranges_between (CA : Ly) : MS :=
  (mRet (mFL 0 (CA 0) (mkD 0 (r_Ranges___init__ CA)) (aCons (mIf (mTest (mF (r_is_empty CA) (aCons (mVar 1) (aCons (mVar 2) aNil)))) (mLst aNil) (mLst (aCons (mTup (aCons (mVar 1) (aCons (mVar 2) aNil))) aNil))) aNil)))
def g_Ranges_between (CA : Ly) : MF := body 3 (m_Ranges_between CA)
def r_Ranges_between (CA : Ly) : MF := ar 3 (g_Ranges_between CA)
theorem sc_Ranges_between : FnScope ["cls", "low", "high"] ["cls", "low", "high"] (defScope s_Ranges_between) := C8.fnScope_by (by decide +kernel)
theorem F_Ranges_between (h : Ht K mg base CA) : FnR P w K mg base (L2.CX P w) 5 (cmA K "Ranges" "between") (spR K CA (r_Ranges_between CA)) := by
  obtain ⟨fd, FD⟩ := h.fc 1
  exact fn_all (sf_of FD sc_Ranges_between fun cdv A outer s H E hr fr =>
  (sb_one (ss_ret (se_callL (i := 0) (df_mk (n := 0) fr.tk h.mkr (F_Ranges___init__ (P := P) (w := w) (base := base) h) (hr.mono (j := 4) (by decide))) (by rfl) (.inl (by rfl)) (sa_cons (se_if (st_val (se_callG (df_fn fr.tk (F_is_empty (P := P) (w := w) (base := base) h) (hr.mono (j := 1) (by decide)) (h.kp 4)) (by rfl) (h.g 4) (sa_cons (se_var (i := 1)) (sa_cons (se_var (i := 2)) sa_nil)))) (se_lst sa_nil) (se_lst (sa_cons (se_tup (sa_cons (se_var (i := 1)) (sa_cons (se_var (i := 2)) sa_nil))) sa_nil))) sa_nil))))) (FD.bindsN fun _ _ _ _ _ _ us hl => match us, hl with | [_, _, _], _ => rfl)
abbrev s_Ranges_full : Stmt := ((C8.clsBody (top 11)).getD 3 (.Pass ⟨0, 0, 0, 0⟩))
def m_Ranges_full (CA : Ly) : MS :=
  (mRet (mFL 0 (CA 0) (mkD 0 (r_Ranges___init__ CA)) (aCons (mLst (aCons (mTup (aCons (mC .non) (aCons (mC .non) aNil))) aNil)) aNil)))
def g_Ranges_full (CA : Ly) : MF := body 1 (m_Ranges_full CA)
def r_Ranges_full (CA : Ly) : MF := ar 1 (g_Ranges_full CA)
theorem sc_Ranges_full : FnScope ["cls"] ["cls"] (defScope s_Ranges_full) := C8.fnScope_by (by decide +kernel)
theorem F_Ranges_full (h : Ht K mg base CA) : FnR P w K mg base (L2.CX P w) 5 (cmA K "Ranges" "full") (spR K CA (r_Ranges_full CA)) := by
  obtain ⟨fd, FD⟩ := h.fc 2
  exact fn_all (sf_of FD sc_Ranges_full fun cdv A outer s H E hr fr =>
  (sb_one (ss_ret (se_callL (i := 0) (df_mk (n := 0) fr.tk h.mkr (F_Ranges___init__ (P := P) (w := w) (base := base) h) (hr.mono (j := 4) (by decide))) (by rfl) (.inl (by rfl)) (sa_cons (se_lst (sa_cons (se_tup (sa_cons se_non (sa_cons se_non sa_nil))) sa_nil)) sa_nil))))) (FD.bindsN fun _ _ _ _ _ _ us hl => match us, hl with | [_], _ => rfl)
abbrev s_Ranges_empty : Stmt := ((C8.clsBody (top 11)).getD 4 (.Pass ⟨0, 0, 0, 0⟩))
def m_Ranges_empty (CA : Ly) : MS :=
  (mRet (mFL 0 (CA 0) (mkD 0 (r_Ranges___init__ CA)) (aCons (mLst aNil) aNil)))
def g_Ranges_empty (CA : Ly) : MF := body 1 (m_Ranges_empty CA)
def r_Ranges_empty (CA : Ly) : MF := ar 1 (g_Ranges_empty CA)
theorem sc_Ranges_empty : FnScope ["cls"] ["cls"] (defScope s_Ranges_empty) := C8.fnScope_by (by decide +kernel)
theorem F_Ranges_empty (h : Ht K mg base CA) : FnR P w K mg base (L2.CX P w) 5 (cmA K "Ranges" "empty") (spR K CA (r_Ranges_empty CA)) := by
  obtain ⟨fd, FD⟩ := h.fc 3
  exact fn_all (sf_of FD sc_Ranges_empty fun cdv A outer s H E hr fr =>
  (sb_one (ss_ret (se_callL (i := 0) (df_mk (n := 0) fr.tk h.mkr (F_Ranges___init__ (P := P) (w := w) (base := base) h) (hr.mono (j := 4) (by decide))) (by rfl) (.inl (by rfl)) (sa_cons (se_lst sa_nil) sa_nil))))) (FD.bindsN fun _ _ _ _ _ _ us hl => match us, hl with | [_], _ => rfl)
abbrev s_Ranges___or__ : Stmt := ((C8.clsBody (top 11)).getD 5 (.Pass ⟨0, 0, 0, 0⟩))
def m_Ranges___or__ (CA : Ly) : MS :=
  (mRet (mF (mkD 0 (r_Ranges___init__ CA)) (aCons (mBin addT (mUn (fldD "parts" [0]) (mVar 0)) (mUn (fldD "parts" [0]) (mVar 1))) aNil)))
def g_Ranges___or__ (CA : Ly) : MF := body 2 (m_Ranges___or__ CA)
def r_Ranges___or__ (CA : Ly) : MF := ar 2 (g_Ranges___or__ CA)
theorem sc_Ranges___or__ : FnScope ["self", "other"] ["self", "other"] (defScope s_Ranges___or__) := C8.fnScope_by (by decide +kernel)
theorem F_Ranges___or__ (h : Ht K mg base CA) : FnR P w K mg base (L2.CX P w) 5 (He.fAd K ("Ranges", some "__or__")) (spR K CA (r_Ranges___or__ CA)) := by
  obtain ⟨fd, FD⟩ := h.fn 10
  exact fn_all (sf_of FD sc_Ranges___or__ fun cdv A outer s H E hr fr =>
  (sb_one (ss_ret (se_callG (df_mk (n := 0) fr.tk h.mkr (F_Ranges___init__ (P := P) (w := w) (base := base) h) (hr.mono (j := 4) (by decide))) (by rfl) h.gC (sa_cons (se_bin dop_addT (se_fld (se_var (i := 0)) h.nas) (se_fld (se_var (i := 1)) h.nas)) sa_nil))))) (FD.bindsN fun _ _ _ _ _ _ us hl => match us, hl with | [_, _], _ => rfl)
abbrev s_Ranges___and__ : Stmt := ((C8.clsBody (top 11)).getD 6 (.Pass ⟨0, 0, 0, 0⟩))
def m_Ranges___and__ (CA : Ly) : MS :=
  (mRet (mF (mkD 0 (r_Ranges___init__ CA)) (aCons (mF (r_common CA) (aCons (mUn (fldD "parts" [0]) (mVar 0)) (aCons (mUn (fldD "parts" [0]) (mVar 1)) aNil))) aNil)))
def g_Ranges___and__ (CA : Ly) : MF := body 2 (m_Ranges___and__ CA)
def r_Ranges___and__ (CA : Ly) : MF := ar 2 (g_Ranges___and__ CA)
theorem sc_Ranges___and__ : FnScope ["self", "other"] ["self", "other"] (defScope s_Ranges___and__) := C8.fnScope_by (by decide +kernel)
theorem F_Ranges___and__ (h : Ht K mg base CA) : FnR P w K mg base (L2.CX P w) 5 (He.fAd K ("Ranges", some "__and__")) (spR K CA (r_Ranges___and__ CA)) := by
  obtain ⟨fd, FD⟩ := h.fn 11
  exact fn_all (sf_of FD sc_Ranges___and__ fun cdv A outer s H E hr fr =>
  (sb_one (ss_ret (se_callG (df_mk (n := 0) fr.tk h.mkr (F_Ranges___init__ (P := P) (w := w) (base := base) h) (hr.mono (j := 4) (by decide))) (by rfl) h.gC (sa_cons (se_callG (df_fn fr.tk (F_common (P := P) (w := w) (base := base) h) (hr.mono (j := 3) (by decide)) (h.kp 6)) (by rfl) (h.g 6) (sa_cons (se_fld (se_var (i := 0)) h.nas) (sa_cons (se_fld (se_var (i := 1)) h.nas) sa_nil))) sa_nil))))) (FD.bindsN fun _ _ _ _ _ _ us hl => match us, hl with | [_, _], _ => rfl)
abbrev s_Ranges___sub__ : Stmt := ((C8.clsBody (top 11)).getD 7 (.Pass ⟨0, 0, 0, 0⟩))
def m_Ranges___sub__ (CA : Ly) : MS :=
  (mRet (mF (mkD 0 (r_Ranges___init__ CA)) (aCons (mF (r_common CA) (aCons (mUn (fldD "parts" [0]) (mVar 0)) (aCons (mF (r_outside CA) (aCons (mUn (fldD "parts" [0]) (mVar 1)) aNil)) aNil))) aNil)))
def g_Ranges___sub__ (CA : Ly) : MF := body 2 (m_Ranges___sub__ CA)
def r_Ranges___sub__ (CA : Ly) : MF := ar 2 (g_Ranges___sub__ CA)
theorem sc_Ranges___sub__ : FnScope ["self", "other"] ["self", "other"] (defScope s_Ranges___sub__) := C8.fnScope_by (by decide +kernel)
theorem F_Ranges___sub__ (h : Ht K mg base CA) : FnR P w K mg base (L2.CX P w) 5 (He.fAd K ("Ranges", some "__sub__")) (spR K CA (r_Ranges___sub__ CA)) := by
  obtain ⟨fd, FD⟩ := h.fn 12
  exact fn_all (sf_of FD sc_Ranges___sub__ fun cdv A outer s H E hr fr =>
  (sb_one (ss_ret (se_callG (df_mk (n := 0) fr.tk h.mkr (F_Ranges___init__ (P := P) (w := w) (base := base) h) (hr.mono (j := 4) (by decide))) (by rfl) h.gC (sa_cons (se_callG (df_fn fr.tk (F_common (P := P) (w := w) (base := base) h) (hr.mono (j := 3) (by decide)) (h.kp 6)) (by rfl) (h.g 6) (sa_cons (se_fld (se_var (i := 0)) h.nas) (sa_cons (se_callG (df_fn fr.tk (F_outside (P := P) (w := w) (base := base) h) (hr.mono (j := 1) (by decide)) (h.kp 7)) (by rfl) (h.g 7) (sa_cons (se_fld (se_var (i := 1)) h.nas) sa_nil)) sa_nil))) sa_nil))))) (FD.bindsN fun _ _ _ _ _ _ us hl => match us, hl with | [_, _], _ => rfl)
abbrev s_Ranges___eq__ : Stmt := ((C8.clsBody (top 11)).getD 8 (.Pass ⟨0, 0, 0, 0⟩))
def m_Ranges___eq__ (CA : Ly) : MS :=
  (mRet (mAndV (mCB (un2 (isiD CA [0] tabI)) (aCons (mVar 1) (aCons (mC (.adr (CA 0))) aNil))) (mBin eqD (mUn (fldD "parts" [0]) (mVar 0)) (mUn (fldD "parts" [0]) (mVar 1)))))
def g_Ranges___eq__ (CA : Ly) : MF := body 2 (m_Ranges___eq__ CA)
def r_Ranges___eq__ (CA : Ly) : MF := ar 2 (g_Ranges___eq__ CA)
theorem sc_Ranges___eq__ : FnScope ["self", "other"] ["self", "other"] (defScope s_Ranges___eq__) := C8.fnScope_by (by decide +kernel)
theorem F_Ranges___eq__ (h : Ht K mg base CA) : FnR P w K mg base (L2.CX P w) 1 (He.fAd K ("Ranges", some "__eq__")) (spR K CA (r_Ranges___eq__ CA)) := by
  obtain ⟨fd, FD⟩ := h.fn 13
  exact fn_all (sf_of FD sc_Ranges___eq__ fun cdv A outer s H E hr fr =>
  (sb_one (ss_ret (se_and (se_callB (dc_isi h.kcs h.kit) (by rfl) (h.b 9) (by rfl) (sa_cons (se_var (i := 1)) (sa_cons (se_glob (by rfl) h.gC) sa_nil))) (se_one (se_cmp (dop_eqD hr.u64) (se_fld (se_var (i := 0)) h.nas) (se_fld (se_var (i := 1)) h.nas) (by rfl))))))) (FD.bindsN fun _ _ _ _ _ _ us hl => match us, hl with | [_, _], _ => rfl)
abbrev s_Ranges___contains__ : Stmt := ((C8.clsBody (top 11)).getD 9 (.Pass ⟨0, 0, 0, 0⟩))
def m_Ranges___contains__ (CA : Ly) : MS :=
  (mRet (mAndV (mF (r_is_integer CA) (aCons (mVar 1) aNil)) (mF (r_has_number CA) (aCons (mUn (fldD "parts" [0]) (mVar 0)) (aCons (mVar 1) aNil)))))
def g_Ranges___contains__ (CA : Ly) : MF := body 2 (m_Ranges___contains__ CA)
def r_Ranges___contains__ (CA : Ly) : MF := ar 2 (g_Ranges___contains__ CA)
theorem sc_Ranges___contains__ : FnScope ["self", "value"] ["self", "value"] (defScope s_Ranges___contains__) := C8.fnScope_by (by decide +kernel)
theorem F_Ranges___contains__ (h : Ht K mg base CA) : FnR P w K mg base (L2.CX P w) 2 (He.fAd K ("Ranges", some "__contains__")) (spR K CA (r_Ranges___contains__ CA)) := by
  obtain ⟨fd, FD⟩ := h.fn 14
  exact fn_all (sf_of FD sc_Ranges___contains__ fun cdv A outer s H E hr fr =>
  (sb_one (ss_ret (se_and (se_callG (df_fn fr.tk (F_is_integer (P := P) (w := w) (base := base) h) (hr.mono (j := 1) (by decide)) (h.kp 0)) (by rfl) (h.g 0) (sa_cons (se_var (i := 1)) sa_nil)) (se_one (se_callG (df_fn fr.tk (F_has_number (P := P) (w := w) (base := base) h) (hr.mono (j := 1) (by decide)) (h.kp 8)) (by rfl) (h.g 8) (sa_cons (se_fld (se_var (i := 0)) h.nas) (sa_cons (se_var (i := 1)) sa_nil)))))))) (FD.bindsN fun _ _ _ _ _ _ us hl => match us, hl with | [_, _], _ => rfl)
abbrev s_Ranges___bool__ : Stmt := ((C8.clsBody (top 11)).getD 10 (.Pass ⟨0, 0, 0, 0⟩))
def m_Ranges___bool__ (CA : Ly) : MS :=
  (mRet (mCB (un1 boolD) (aCons (mUn (fldD "parts" [0]) (mVar 0)) aNil)))
def g_Ranges___bool__ (CA : Ly) : MF := body 1 (m_Ranges___bool__ CA)
def r_Ranges___bool__ (CA : Ly) : MF := ar 1 (g_Ranges___bool__ CA)
theorem sc_Ranges___bool__ : FnScope ["self"] ["self"] (defScope s_Ranges___bool__) := C8.fnScope_by (by decide +kernel)
theorem F_Ranges___bool__ (h : Ht K mg base CA) : FnR P w K mg base (L2.CX P w) 1 (He.fAd K ("Ranges", some "__bool__")) (spR K CA (r_Ranges___bool__ CA)) := by
  obtain ⟨fd, FD⟩ := h.fn 15
  exact fn_all (sf_of FD sc_Ranges___bool__ fun cdv A outer s H E hr fr =>
  (sb_one (ss_ret (se_callTy dc_bool (by rfl) (h.b 3) (by rfl) (sa_cons (se_fld (se_var (i := 0)) h.nas) sa_nil))))) (FD.bindsN fun _ _ _ _ _ _ us hl => match us, hl with | [_], _ => rfl)
abbrev s_Ranges_is_within : Stmt := ((C8.clsBody (top 11)).getD 11 (.Pass ⟨0, 0, 0, 0⟩))
def m_Ranges_is_within (CA : Ly) : MS :=
  (mRet (mBin eqD (mF (r_common CA) (aCons (mUn (fldD "parts" [0]) (mVar 0)) (aCons (mF (r_outside CA) (aCons (mUn (fldD "parts" [0]) (mVar 1)) aNil)) aNil))) (mTup aNil)))
def g_Ranges_is_within (CA : Ly) : MF := body 2 (m_Ranges_is_within CA)
def r_Ranges_is_within (CA : Ly) : MF := ar 2 (g_Ranges_is_within CA)
theorem sc_Ranges_is_within : FnScope ["self", "other"] ["self", "other"] (defScope s_Ranges_is_within) := C8.fnScope_by (by decide +kernel)
theorem F_Ranges_is_within (h : Ht K mg base CA) : FnR P w K mg base (L2.CX P w) 4 (He.fAd K ("Ranges", some "is_within")) (spR K CA (r_Ranges_is_within CA)) := by
  obtain ⟨fd, FD⟩ := h.fn 16
  exact fn_all (sf_of FD sc_Ranges_is_within fun cdv A outer s H E hr fr =>
  (sb_one (ss_ret (se_cmp (dop_eqD hr.u64) (se_callG (df_fn fr.tk (F_common (P := P) (w := w) (base := base) h) (hr.mono (j := 3) (by decide)) (h.kp 6)) (by rfl) (h.g 6) (sa_cons (se_fld (se_var (i := 0)) h.nas) (sa_cons (se_callG (df_fn fr.tk (F_outside (P := P) (w := w) (base := base) h) (hr.mono (j := 1) (by decide)) (h.kp 7)) (by rfl) (h.g 7) (sa_cons (se_fld (se_var (i := 1)) h.nas) sa_nil)) sa_nil))) (se_tup sa_nil) (by rfl))))) (FD.bindsN fun _ _ _ _ _ _ us hl => match us, hl with | [_, _], _ => rfl)
abbrev s__law_pen : Stmt := top 13
def m__law_pen (CA : Ly) : MS :=
  (mRet (mLst (aCons (mCB (un1 listD) (aCons (mSlice (mVar 0) pNone (pSome (mC (.int 63)))) aNil)) (aCons (mC (.int 0)) (aCons (mC (.int 0)) aNil)))))
def g__law_pen (CA : Ly) : MF := body 1 (m__law_pen CA)
def r__law_pen (CA : Ly) : MF := ar 1 (g__law_pen CA)
theorem sc__law_pen : FnScope ["script"] ["script"] (defScope s__law_pen) := C8.fnScope_by (by decide +kernel)
theorem F__law_pen (h : Ht K mg base CA) : FnR P w K mg base (L2.CX P w) 1 (He.fAd K ("_law_pen", none)) (spR K CA (r__law_pen CA)) := by
  obtain ⟨fd, FD⟩ := h.fn 17
  exact fn_all (sf_of FD sc__law_pen fun cdv A outer s H E hr fr =>
  (sb_one (ss_ret (se_lst (sa_cons (se_callTy dc_list (by rfl) (h.b 4) (by rfl) (sa_cons (se_slice (se_var (i := 0)) so_none (so_some se_int)) sa_nil)) (sa_cons se_int (sa_cons se_int sa_nil))))))) (FD.bindsN fun _ _ _ _ _ _ us hl => match us, hl with | [_], _ => rfl)
abbrev s__law_draw : Stmt := top 14
def m__law_draw (CA : Ly) : MS :=
  (mSeq (mIfS (mTest (mBin gtI (mBin ixD (mVar 0) (mC (.int 2))) (mC (.int 0)))) (mSeq (mAsg (mBin modI (mCB (un1 intD) (aCons (mBin ixD (mVar 0) (mC (.int 2))) aNil)) (mVar 1)) (gN 5))
   (mSeq (mSetIx (mBin divW (mBin ixD (mVar 0) (mC (.int 2))) (mVar 1)) (mVar 0) (mC (.int 2)))
   (mRet (mVar 5)))) mSkip)
  (mSeq (mAsg (mBin ixD (mVar 0) (mC (.int 1))) (gN 2))
  (mSeq (mSetIx (mBin addI (mVar 2) (mC (.int 1))) (mVar 0) (mC (.int 1)))
  (mSeq (mAsg (mBin addI (mBin mulI (mC (.int 40111)) (mVar 2)) (mC (.int 7))) (gN 3))
  (mSeq (mIfS (mTest (mBin neD (mBin ixD (mVar 0) (mC (.int 0))) (mLst aNil))) (mAsg (mBin ixD (mBin ixD (mVar 0) (mC (.int 0))) (mBin modI (mCB (un1 intD) (aCons (mVar 2) aNil)) (mCB (un1 lenD) (aCons (mBin ixD (mVar 0) (mC (.int 0))) aNil)))) (gN 3)) mSkip)
  (mSeq (mIfS (mAnd (mTest (mBin ltI (mVar 2) (mCB (un1 lenD) (aCons (mBin ixD (mVar 0) (mC (.int 0))) aNil)))) (mTest (mBin geI (mCB (un1 absD) (aCons (mVar 3) aNil)) (mBin powI (mC (.int 10)) (mC (.int 18)))))) (mSeq (mAsg (mBin addI (mBin mulI (mC (.int 2)) (mCB (un1 absD) (aCons (mVar 3) aNil))) (mCB (un1 intD) (aCons (mBin ltI (mVar 3) (mC (.int 0))) aNil))) (gN 6))
   (mSeq (mSetIx (mBin divW (mVar 6) (mVar 1)) (mVar 0) (mC (.int 2)))
   (mRet (mBin modI (mCB (un1 intD) (aCons (mVar 6) aNil)) (mVar 1))))) mSkip)
  (mSeq (mAsg (mBin modI (mBin powI (mCB (un1 intD) (aCons (mBin addI (mBin addI (mBin modI (mCB (un1 intD) (aCons (mVar 3) aNil)) (mC (.int 2147483549))) (mBin mulI (mC (.int 50333)) (mVar 2))) (mC (.int 21))) aNil)) (mC (.int 5))) (mC (.int 2147483579))) (gN 4))
  (mSeq (mAsg (mBin modI (mBin powI (mCB (un1 intD) (aCons (mBin addI (mBin addI (mBin mulI (mVar 4) (mBin addI (mBin mulI (mC (.int 2)) (mVar 2)) (mC (.int 31)))) (mBin mulI (mBin mulI (mC (.int 70001)) (mVar 2)) (mVar 2))) (mC (.int 13))) aNil)) (mC (.int 3))) (mC (.int 2147483629))) (gN 4))
  (mRet (mBin modI (mCB (un1 intD) (aCons (mBin divW (mVar 4) (mC (.int 16))) aNil)) (mVar 1)))))))))))
def g__law_draw (CA : Ly) : MF := body 7 (m__law_draw CA)
def r__law_draw (CA : Ly) : MF := ar 2 (g__law_draw CA)
theorem sc__law_draw : FnScope ["pen", "many", "at", "cell", "mixed", "digit", "large"] ["pen", "many"] (defScope s__law_draw) := C8.fnScope_by (by decide +kernel)
theorem F__law_draw (h : Ht K mg base CA) : FnR P w K mg base (L2.CX P w) 1 (He.fAd K ("_law_draw", none)) (spR K CA (r__law_draw CA)) := by
  obtain ⟨fd, FD⟩ := h.fn 18
  exact fn_all (sf_of FD sc__law_draw fun cdv A outer s H E hr fr =>
  (sb_cons (ss_if (st_cmp dop_gtI (se_ix (se_var (i := 0)) se_int) se_int (by rfl)) (sb_cons (ss_set (i := 5) (se_bin dop_modI (se_callTy dc_int (by rfl) (h.b 2) (by rfl) (sa_cons (se_ix (se_var (i := 0)) se_int) sa_nil)) (se_var (i := 1))) sc__law_draw.nd)
   (sb_cons (ss_setIx (se_bin dop_divW (se_ix (se_var (i := 0)) se_int) (se_var (i := 1))) (se_var (i := 0)) se_int)
   (sb_one (ss_ret (se_var (i := 5)))))) sb_nil)
  (sb_cons (ss_set (i := 2) (se_ix (se_var (i := 0)) se_int) sc__law_draw.nd)
  (sb_cons (ss_setIx (se_bin dop_addI (se_var (i := 2)) se_int) (se_var (i := 0)) se_int)
  (sb_cons (ss_set (i := 3) (se_bin dop_addI (se_bin dop_mulI se_int (se_var (i := 2))) se_int) sc__law_draw.nd)
  (sb_cons (ss_if (st_cmp (dop_neD hr.u64) (se_ix (se_var (i := 0)) se_int) (se_lst sa_nil) (by rfl)) (sb_one (ss_set (i := 3) (se_ix (se_ix (se_var (i := 0)) se_int) (se_bin dop_modI (se_callTy dc_int (by rfl) (h.b 2) (by rfl) (sa_cons (se_var (i := 2)) sa_nil)) (se_callB dc_len (by rfl) (h.b 0) (by rfl) (sa_cons (se_ix (se_var (i := 0)) se_int) sa_nil)))) sc__law_draw.nd)) sb_nil)
  (sb_cons (ss_if (SW.st' (sw_and (st_cmp dop_ltI (se_var (i := 2)) (se_callB dc_len (by rfl) (h.b 0) (by rfl) (sa_cons (se_ix (se_var (i := 0)) se_int) sa_nil)) (by rfl)) (sw_and1 (st_cmp dop_geI (se_callB dc_abs (by rfl) (h.b 1) (by rfl) (sa_cons (se_var (i := 3)) sa_nil)) (se_bin dop_powI se_int se_int) (by rfl))))) (sb_cons (ss_set (i := 6) (se_bin dop_addI (se_bin dop_mulI se_int (se_callB dc_abs (by rfl) (h.b 1) (by rfl) (sa_cons (se_var (i := 3)) sa_nil))) (se_callTy dc_int (by rfl) (h.b 2) (by rfl) (sa_cons (se_cmp dop_ltI (se_var (i := 3)) se_int (by rfl)) sa_nil))) sc__law_draw.nd)
   (sb_cons (ss_setIx (se_bin dop_divW (se_var (i := 6)) (se_var (i := 1))) (se_var (i := 0)) se_int)
   (sb_one (ss_ret (se_bin dop_modI (se_callTy dc_int (by rfl) (h.b 2) (by rfl) (sa_cons (se_var (i := 6)) sa_nil)) (se_var (i := 1))))))) sb_nil)
  (sb_cons (ss_set (i := 4) (se_bin dop_modI (se_bin dop_powI (se_callTy dc_int (by rfl) (h.b 2) (by rfl) (sa_cons (se_bin dop_addI (se_bin dop_addI (se_bin dop_modI (se_callTy dc_int (by rfl) (h.b 2) (by rfl) (sa_cons (se_var (i := 3)) sa_nil)) se_int) (se_bin dop_mulI se_int (se_var (i := 2)))) se_int) sa_nil)) se_int) se_int) sc__law_draw.nd)
  (sb_cons (ss_set (i := 4) (se_bin dop_modI (se_bin dop_powI (se_callTy dc_int (by rfl) (h.b 2) (by rfl) (sa_cons (se_bin dop_addI (se_bin dop_addI (se_bin dop_mulI (se_var (i := 4)) (se_bin dop_addI (se_bin dop_mulI se_int (se_var (i := 2))) se_int)) (se_bin dop_mulI (se_bin dop_mulI se_int (se_var (i := 2))) (se_var (i := 2)))) se_int) sa_nil)) se_int) se_int) sc__law_draw.nd)
  (sb_one (ss_ret (se_bin dop_modI (se_callTy dc_int (by rfl) (h.b 2) (by rfl) (sa_cons (se_bin dop_divW (se_var (i := 4)) se_int) sa_nil)) (se_var (i := 1)))))))))))))) (FD.bindsN fun _ _ _ _ _ _ us hl => match us, hl with | [_, _], _ => rfl)
abbrev s__law_end : Stmt := top 15
def m__law_end (CA : Ly) : MS :=
  (mSeq (mAsg (mF (r__law_draw CA) (aCons (mVar 0) (aCons (mC (.int 6)) aNil))) (gN 1))
  (mSeq (mIfS (mTest (mBin ltI (mVar 1) (mC (.int 3)))) (mRet (mBin subI (mF (r__law_draw CA) (aCons (mVar 0) (aCons (mC (.int 15)) aNil))) (mC (.int 7)))) mSkip)
  (mSeq (mIfS (mTest (mBin eqD (mVar 1) (mC (.int 3)))) (mRet (mBin subI (mF (r__law_draw CA) (aCons (mVar 0) (aCons (mC (.int 201)) aNil))) (mC (.int 100)))) mSkip)
  (mSeq (mIfS (mTest (mBin eqD (mVar 1) (mC (.int 4)))) (mRet (mBin mulI (mBin subI (mBin subI (mBin powI (mC (.int 10)) (mC (.int 12))) (mC (.int 40))) (mF (r__law_draw CA) (aCons (mVar 0) (aCons (mC (.int 4)) aNil)))) (mBin subI (mC (.int 1)) (mBin mulI (mC (.int 2)) (mF (r__law_draw CA) (aCons (mVar 0) (aCons (mC (.int 2)) aNil))))))) mSkip)
  (mRet (mBin mulI (mF (r__law_draw CA) (aCons (mVar 0) (aCons (mBin powI (mC (.int 10)) (mC (.int 11))) aNil))) (mBin subI (mC (.int 1)) (mBin mulI (mC (.int 2)) (mF (r__law_draw CA) (aCons (mVar 0) (aCons (mC (.int 2)) aNil)))))))))))
def g__law_end (CA : Ly) : MF := body 2 (m__law_end CA)
def r__law_end (CA : Ly) : MF := ar 1 (g__law_end CA)
theorem sc__law_end : FnScope ["pen", "pick"] ["pen"] (defScope s__law_end) := C8.fnScope_by (by decide +kernel)
theorem F__law_end (h : Ht K mg base CA) : FnR P w K mg base (L2.CX P w) 2 (He.fAd K ("_law_end", none)) (spR K CA (r__law_end CA)) := by
  obtain ⟨fd, FD⟩ := h.fn 19
  exact fn_all (sf_of FD sc__law_end fun cdv A outer s H E hr fr =>
  (sb_cons (ss_set (i := 1) (se_callG (df_fn fr.tk (F__law_draw (P := P) (w := w) (base := base) h) (hr.mono (j := 1) (by decide)) (h.kp 11)) (by rfl) (h.g 11) (sa_cons (se_var (i := 0)) (sa_cons se_int sa_nil))) sc__law_end.nd)
  (sb_cons (ss_if (st_cmp dop_ltI (se_var (i := 1)) se_int (by rfl)) (sb_one (ss_ret (se_bin dop_subI (se_callG (df_fn fr.tk (F__law_draw (P := P) (w := w) (base := base) h) (hr.mono (j := 1) (by decide)) (h.kp 11)) (by rfl) (h.g 11) (sa_cons (se_var (i := 0)) (sa_cons se_int sa_nil))) se_int))) sb_nil)
  (sb_cons (ss_if (st_cmp (dop_eqD hr.u64) (se_var (i := 1)) se_int (by rfl)) (sb_one (ss_ret (se_bin dop_subI (se_callG (df_fn fr.tk (F__law_draw (P := P) (w := w) (base := base) h) (hr.mono (j := 1) (by decide)) (h.kp 11)) (by rfl) (h.g 11) (sa_cons (se_var (i := 0)) (sa_cons se_int sa_nil))) se_int))) sb_nil)
  (sb_cons (ss_if (st_cmp (dop_eqD hr.u64) (se_var (i := 1)) se_int (by rfl)) (sb_one (ss_ret (se_bin dop_mulI (se_bin dop_subI (se_bin dop_subI (se_bin dop_powI se_int se_int) se_int) (se_callG (df_fn fr.tk (F__law_draw (P := P) (w := w) (base := base) h) (hr.mono (j := 1) (by decide)) (h.kp 11)) (by rfl) (h.g 11) (sa_cons (se_var (i := 0)) (sa_cons se_int sa_nil)))) (se_bin dop_subI se_int (se_bin dop_mulI se_int (se_callG (df_fn fr.tk (F__law_draw (P := P) (w := w) (base := base) h) (hr.mono (j := 1) (by decide)) (h.kp 11)) (by rfl) (h.g 11) (sa_cons (se_var (i := 0)) (sa_cons se_int sa_nil)))))))) sb_nil)
  (sb_one (ss_ret (se_bin dop_mulI (se_callG (df_fn fr.tk (F__law_draw (P := P) (w := w) (base := base) h) (hr.mono (j := 1) (by decide)) (h.kp 11)) (by rfl) (h.g 11) (sa_cons (se_var (i := 0)) (sa_cons (se_bin dop_powI se_int se_int) sa_nil))) (se_bin dop_subI se_int (se_bin dop_mulI se_int (se_callG (df_fn fr.tk (F__law_draw (P := P) (w := w) (base := base) h) (hr.mono (j := 1) (by decide)) (h.kp 11)) (by rfl) (h.g 11) (sa_cons (se_var (i := 0)) (sa_cons se_int sa_nil))))))))))))) (FD.bindsN fun _ _ _ _ _ _ us hl => match us, hl with | [_], _ => rfl)
abbrev s__law_stretches : Stmt := top 16
def m__law_stretches (CA : Ly) : MS :=
  (mSeq (mBox (mLst aNil) 2)
  (mSeq (mFor (iRng1M (mF (r__law_draw CA) (aCons (mVar 0) (aCons (mBin addI (mVar 1) (mC (.int 1))) aNil)))) (gN 3) (mSeq (mAsg (mF (r__law_end CA) (aCons (mVar 0) aNil)) (gN 4))
   (mSeq (mAsg (mF (r__law_draw CA) (aCons (mVar 0) (aCons (mC (.int 8)) aNil))) (gN 5))
   (mSeq (mIfS (mAnd (mTest (mBin neD (mVar 2) (mLst aNil))) (mTest (mBin ltI (mVar 5) (mC (.int 4))))) (mSeq (mAsg (mBin ixD (mBin ixD (mVar 2) (mUn negI (mC (.int 1)))) (mBin divW (mVar 5) (mC (.int 2)))) (gN 4))
    (mAsg (mBin addI (mBin addI (mIf (mTest (mUn isN (mVar 4))) (mC (.int 0)) (mVar 4)) (mC (.int 1))) (mBin modI (mCB (un1 intD) (aCons (mVar 5) aNil)) (mC (.int 2)))) (gN 4))) mSkip)
   (mSeq (mAsg (mBin addI (mVar 4) (mBin ixD (mLst (aCons (mC (.int 0)) (aCons (mC (.int 0)) (aCons (mC (.int 1)) (aCons (mC (.int 2)) (aCons (mF (r__law_draw CA) (aCons (mVar 0) (aCons (mC (.int 10)) aNil))) (aCons (mF (r__law_draw CA) (aCons (mVar 0) (aCons (mC (.int 1000)) aNil))) aNil))))))) (mF (r__law_draw CA) (aCons (mVar 0) (aCons (mC (.int 6)) aNil))))) (gN 6))
   (mSeq (mAsg (mCB (un2 min2) (aCons (mVar 6) (aCons (mBin subI (mBin powI (mC (.int 10)) (mC (.int 12))) (mC (.int 40))) aNil))) (gN 6))
   (mSeq (mAsg (mTup (aCons (mCB (un2 min2) (aCons (mVar 4) (aCons (mVar 6) aNil))) (aCons (mVar 6) aNil))) (gN 7))
   (mSeq (mAsg (mF (r__law_draw CA) (aCons (mVar 0) (aCons (mC (.int 9)) aNil))) (gN 5))
   (mSeq (mIfS (mTest (mBin eqD (mVar 5) (mC (.int 0)))) (mAsg (mTup (aCons (mC .non) (aCons (mVar 6) aNil))) (gN 7)) mSkip)
   (mSeq (mIfS (mTest (mBin eqD (mVar 5) (mC (.int 1)))) (mAsg (mTup (aCons (mCB (un2 min2) (aCons (mVar 4) (aCons (mVar 6) aNil))) (aCons (mC .non) aNil))) (gN 7)) mSkip)
   (mExpr (mBm appD (mVar 2) (aCons (mVar 7) aNil)))))))))))))
  (mRet (mVar 2))))
def g__law_stretches (CA : Ly) : MF := body 8 (m__law_stretches CA)
def r__law_stretches (CA : Ly) : MF := ar 2 (g__law_stretches CA)
theorem sc__law_stretches : FnScope ["pen", "most", "found", "turn", "low", "pick", "high", "ends"] ["pen", "most"] (defScope s__law_stretches) := C8.fnScope_by (by decide +kernel)
theorem F__law_stretches (h : Ht K mg base CA) : FnR P w K mg base (L2.CX P w) 3 (He.fAd K ("_law_stretches", none)) (spR K CA (r__law_stretches CA)) := by
  obtain ⟨fd, FD⟩ := h.fn 20
  exact fn_all (sf_of FD sc__law_stretches fun cdv A outer s H E hr fr =>
  (sb_cons (ss_box (i := 2) (se_lst sa_nil) sc__law_stretches.nd)
  (sb_cons (ss_for fr (si_rng1 (by rfl) (h.b 10) (se_callG (df_fn fr.tk (F__law_draw (P := P) (w := w) (base := base) h) (hr.mono (j := 1) (by decide)) (h.kp 11)) (by rfl) (h.g 11) (sa_cons (se_var (i := 0)) (sa_cons (se_bin dop_addI (se_var (i := 1)) se_int) sa_nil)))) (sg_name (i := 3) sc__law_stretches.nd) (sb_cons (ss_set (i := 4) (se_callG (df_fn fr.tk (F__law_end (P := P) (w := w) (base := base) h) (hr.mono (j := 2) (by decide)) (h.kp 12)) (by rfl) (h.g 12) (sa_cons (se_var (i := 0)) sa_nil)) sc__law_stretches.nd)
   (sb_cons (ss_set (i := 5) (se_callG (df_fn fr.tk (F__law_draw (P := P) (w := w) (base := base) h) (hr.mono (j := 1) (by decide)) (h.kp 11)) (by rfl) (h.g 11) (sa_cons (se_var (i := 0)) (sa_cons se_int sa_nil))) sc__law_stretches.nd)
   (sb_cons (ss_if (SW.st' (sw_and (st_cmp (dop_neD hr.u64) (se_var (i := 2)) (se_lst sa_nil) (by rfl)) (sw_and1 (st_cmp dop_ltI (se_var (i := 5)) se_int (by rfl))))) (sb_cons (ss_set (i := 4) (se_ix (se_ix (se_var (i := 2)) (se_un dun_neg se_int)) (se_bin dop_divW (se_var (i := 5)) se_int)) sc__law_stretches.nd)
    (sb_one (ss_set (i := 4) (se_bin dop_addI (se_bin dop_addI (se_if (st_isN (se_var (i := 4))) se_int (se_var (i := 4))) se_int) (se_bin dop_modI (se_callTy dc_int (by rfl) (h.b 2) (by rfl) (sa_cons (se_var (i := 5)) sa_nil)) se_int)) sc__law_stretches.nd))) sb_nil)
   (sb_cons (ss_set (i := 6) (se_bin dop_addI (se_var (i := 4)) (se_ix (se_lst (sa_cons se_int (sa_cons se_int (sa_cons se_int (sa_cons se_int (sa_cons (se_callG (df_fn fr.tk (F__law_draw (P := P) (w := w) (base := base) h) (hr.mono (j := 1) (by decide)) (h.kp 11)) (by rfl) (h.g 11) (sa_cons (se_var (i := 0)) (sa_cons se_int sa_nil))) (sa_cons (se_callG (df_fn fr.tk (F__law_draw (P := P) (w := w) (base := base) h) (hr.mono (j := 1) (by decide)) (h.kp 11)) (by rfl) (h.g 11) (sa_cons (se_var (i := 0)) (sa_cons se_int sa_nil))) sa_nil))))))) (se_callG (df_fn fr.tk (F__law_draw (P := P) (w := w) (base := base) h) (hr.mono (j := 1) (by decide)) (h.kp 11)) (by rfl) (h.g 11) (sa_cons (se_var (i := 0)) (sa_cons se_int sa_nil))))) sc__law_stretches.nd)
   (sb_cons (ss_set (i := 6) (se_callB (dc_min2 fr.calm) (by rfl) (h.b 8) (by rfl) (sa_cons (se_var (i := 6)) (sa_cons (se_bin dop_subI (se_bin dop_powI se_int se_int) se_int) sa_nil))) sc__law_stretches.nd)
   (sb_cons (ss_set (i := 7) (se_tup (sa_cons (se_callB (dc_min2 fr.calm) (by rfl) (h.b 8) (by rfl) (sa_cons (se_var (i := 4)) (sa_cons (se_var (i := 6)) sa_nil))) (sa_cons (se_var (i := 6)) sa_nil))) sc__law_stretches.nd)
   (sb_cons (ss_set (i := 5) (se_callG (df_fn fr.tk (F__law_draw (P := P) (w := w) (base := base) h) (hr.mono (j := 1) (by decide)) (h.kp 11)) (by rfl) (h.g 11) (sa_cons (se_var (i := 0)) (sa_cons se_int sa_nil))) sc__law_stretches.nd)
   (sb_cons (ss_if (st_cmp (dop_eqD hr.u64) (se_var (i := 5)) se_int (by rfl)) (sb_one (ss_set (i := 7) (se_tup (sa_cons se_non (sa_cons (se_var (i := 6)) sa_nil))) sc__law_stretches.nd)) sb_nil)
   (sb_cons (ss_if (st_cmp (dop_eqD hr.u64) (se_var (i := 5)) se_int (by rfl)) (sb_one (ss_set (i := 7) (se_tup (sa_cons (se_callB (dc_min2 fr.calm) (by rfl) (h.b 8) (by rfl) (sa_cons (se_var (i := 4)) (sa_cons (se_var (i := 6)) sa_nil))) (sa_cons se_non sa_nil))) sc__law_stretches.nd)) sb_nil)
   (sb_one (ss_expr (se_bm F.plainAttrs_list F.slot_list_append (by rfl) dml_append (se_var (i := 2)) (sa_cons (se_var (i := 7)) sa_nil))))))))))))))
  (sb_one (ss_ret (se_var (i := 2))))))) (FD.bindsN fun _ _ _ _ _ _ us hl => match us, hl with | [_, _], _ => rfl)
abbrev s__law_has : Stmt := top 17
def m__law_has (CA : Ly) : MS :=
  (mSeq (mFor (iSeq (mVar 0)) (gTup [(gN 2), (gN 3)]) (mIfS (mAnd (mOr (mTest (mUn isN (mVar 2))) (mTest (mBin leI (mVar 2) (mVar 1)))) (mOr (mTest (mUn isN (mVar 3))) (mTest (mBin leI (mVar 1) (mVar 3))))) (mRet (mC (.bl true))) mSkip))
  (mRet (mC (.bl false))))
def g__law_has (CA : Ly) : MF := body 4 (m__law_has CA)
def r__law_has (CA : Ly) : MF := ar 2 (g__law_has CA)
theorem sc__law_has : FnScope ["stretches", "number", "low", "high"] ["stretches", "number"] (defScope s__law_has) := C8.fnScope_by (by decide +kernel)
theorem F__law_has (h : Ht K mg base CA) : FnR P w K mg base (L2.CX P w) 1 (He.fAd K ("_law_has", none)) (spR K CA (r__law_has CA)) := by
  obtain ⟨fd, FD⟩ := h.fn 21
  exact fn_all (sf_of FD sc__law_has fun cdv A outer s H E hr fr =>
  (sb_cons (ss_for fr (si_seq (se_var (i := 0))) (sg_tup (gs := [(gN 2), (gN 3)]) fr.calm (sgs_cons (sg_name (i := 2) sc__law_has.nd) (sgs_cons (sg_name (i := 3) sc__law_has.nd) sgs_nil))) (sb_one (ss_if (SW.st' (sw_and (SW.st' (sw_or (st_isN (se_var (i := 2))) (sw_or1 (st_cmp dop_leI (se_var (i := 2)) (se_var (i := 1)) (by rfl))))) (sw_and1 (SW.st' (sw_or (st_isN (se_var (i := 3))) (sw_or1 (st_cmp dop_leI (se_var (i := 1)) (se_var (i := 3)) (by rfl)))))))) (sb_one (ss_ret se_bl)) sb_nil)))
  (sb_one (ss_ret se_bl)))) (FD.bindsN fun _ _ _ _ _ _ us hl => match us, hl with | [_, _], _ => rfl)
abbrev s__law_points : Stmt := top 18
def m__law_points (CA : Ly) : MS :=
  (mSeq (mAsg (mLst (aCons (mC (.int 0)) (aCons (mC (.int 1)) (aCons (mUn negI (mC (.int 1))) (aCons (mBin powI (mC (.int 10)) (mC (.int 13))) (aCons (mBin subI (mC (.int 0)) (mBin powI (mC (.int 10)) (mC (.int 13)))) aNil)))))) (gN 1))
  (mSeq (mFor (iSeq (mVar 0)) (gN 2) (mFor (iSeq (mVar 2)) (gN 3) (mIfS (mTest (mUn notN (mVar 3))) (mAsg (mBin addL (mVar 1) (mLst (aCons (mBin subI (mVar 3) (mC (.int 1))) (aCons (mVar 3) (aCons (mBin addI (mVar 3) (mC (.int 1))) aNil))))) (gN 1)) mSkip)))
  (mRet (mVar 1))))
def g__law_points (CA : Ly) : MF := body 4 (m__law_points CA)
def r__law_points (CA : Ly) : MF := ar 1 (g__law_points CA)
theorem sc__law_points : FnScope ["stretches", "found", "ends", "end"] ["stretches"] (defScope s__law_points) := C8.fnScope_by (by decide +kernel)
theorem F__law_points (h : Ht K mg base CA) : FnR P w K mg base (L2.CX P w) 1 (He.fAd K ("_law_points", none)) (spR K CA (r__law_points CA)) := by
  obtain ⟨fd, FD⟩ := h.fn 22
  exact fn_all (sf_of FD sc__law_points fun cdv A outer s H E hr fr =>
  (sb_cons (ss_set (i := 1) (se_lst (sa_cons se_int (sa_cons se_int (sa_cons (se_un dun_neg se_int) (sa_cons (se_bin dop_powI se_int se_int) (sa_cons (se_bin dop_subI se_int (se_bin dop_powI se_int se_int)) sa_nil)))))) sc__law_points.nd)
  (sb_cons (ss_for fr (si_seq (se_var (i := 0))) (sg_name (i := 2) sc__law_points.nd) (sb_one (ss_for fr (si_seq (se_var (i := 2))) (sg_name (i := 3) sc__law_points.nd) (sb_one (ss_if (st_notN (se_var (i := 3))) (sb_one (ss_set (i := 1) (se_bin dop_addL (se_var (i := 1)) (se_lst (sa_cons (se_bin dop_subI (se_var (i := 3)) se_int) (sa_cons (se_var (i := 3)) (sa_cons (se_bin dop_addI (se_var (i := 3)) se_int) sa_nil))))) sc__law_points.nd)) sb_nil)))))
  (sb_one (ss_ret (se_var (i := 1))))))) (FD.bindsN fun _ _ _ _ _ _ us hl => match us, hl with | [_], _ => rfl)
abbrev s__law_is_joined : Stmt := top 19
def m__law_is_joined (CA : Ly) : MS :=
  (mSeq (mIfS (mNot (mTest (mCB (un2 (isiD CA [0] tabI)) (aCons (mVar 0) (aCons (mC (.ty "tuple")) aNil))))) (mRet (mC (.bl false))) mSkip)
  (mSeq (mFor (iEnM (mVar 0)) (gTup [(gN 1), (gN 2)]) (mSeq (mIfS (mOr (mNot (mTest (mCB (un2 (isiD CA [0] tabI)) (aCons (mVar 2) (aCons (mC (.ty "tuple")) aNil))))) (mTest (mBin neD (mCB (un1 lenD) (aCons (mVar 2) aNil)) (mC (.int 2))))) (mRet (mC (.bl false))) mSkip)
   (mSeq (mFor (iSeq (mVar 2)) (gN 3) (mIfS (mAnd (mTest (mUn notN (mVar 3))) (mOr (mNot (mTest (mCB (un2 (isiD CA [0] tabI)) (aCons (mVar 3) (aCons (mC (.ty "int")) aNil))))) (mTest (mCB (un2 (isiD CA [0] tabI)) (aCons (mVar 3) (aCons (mC (.ty "bool")) aNil)))))) (mRet (mC (.bl false))) mSkip))
   (mSeq (mAsg (mVar 2) (gTup [(gN 4), (gN 5)]))
   (mSeq (mIfS (mOr (mAnd (mTest (mUn isN (mVar 4))) (mTest (mBin gtI (mVar 1) (mC (.int 0))))) (mAnd (mTest (mUn isN (mVar 5))) (mTest (mBin ltI (mBin addI (mVar 1) (mC (.int 1))) (mCB (un1 lenD) (aCons (mVar 0) aNil)))))) (mRet (mC (.bl false))) mSkip)
   (mSeq (mIfS (mAnd (mTest (mUn notN (mVar 4))) (mAnd (mTest (mUn notN (mVar 5))) (mTest (mBin gtI (mVar 4) (mVar 5))))) (mRet (mC (.bl false))) mSkip)
   (mIfS (mAnd (mTest (mBin gtI (mVar 1) (mC (.int 0)))) (mTest (mBin geI (mBin addI (mBin ixD (mBin ixD (mVar 0) (mBin subI (mVar 1) (mC (.int 1)))) (mC (.int 1))) (mC (.int 1))) (mVar 4)))) (mRet (mC (.bl false))) mSkip)))))))
  (mRet (mC (.bl true)))))
def g__law_is_joined (CA : Ly) : MF := body 6 (m__law_is_joined CA)
def r__law_is_joined (CA : Ly) : MF := ar 1 (g__law_is_joined CA)
theorem sc__law_is_joined : FnScope ["parts", "at", "part", "end", "low", "high"] ["parts"] (defScope s__law_is_joined) := C8.fnScope_by (by decide +kernel)
theorem F__law_is_joined (h : Ht K mg base CA) : FnR P w K mg base (L2.CX P w) 1 (He.fAd K ("_law_is_joined", none)) (spR K CA (r__law_is_joined CA)) := by
  obtain ⟨fd, FD⟩ := h.fn 23
  exact fn_all (sf_of FD sc__law_is_joined fun cdv A outer s H E hr fr =>
  (sb_cons (ss_if (st_not (st_val (se_callB (dc_isi h.kcs h.kit) (by rfl) (h.b 9) (by rfl) (sa_cons (se_var (i := 0)) (sa_cons (se_ty (by rfl) (h.b 5) (by rfl)) sa_nil))))) (sb_one (ss_ret se_bl)) sb_nil)
  (sb_cons (ss_for fr (si_enum (by rfl) (h.b 11) (se_var (i := 0))) (sg_tup (gs := [(gN 1), (gN 2)]) fr.calm (sgs_cons (sg_name (i := 1) sc__law_is_joined.nd) (sgs_cons (sg_name (i := 2) sc__law_is_joined.nd) sgs_nil))) (sb_cons (ss_if (SW.st' (sw_or (st_not (st_val (se_callB (dc_isi h.kcs h.kit) (by rfl) (h.b 9) (by rfl) (sa_cons (se_var (i := 2)) (sa_cons (se_ty (by rfl) (h.b 5) (by rfl)) sa_nil))))) (sw_or1 (st_cmp (dop_neD hr.u64) (se_callB dc_len (by rfl) (h.b 0) (by rfl) (sa_cons (se_var (i := 2)) sa_nil)) se_int (by rfl))))) (sb_one (ss_ret se_bl)) sb_nil)
   (sb_cons (ss_for fr (si_seq (se_var (i := 2))) (sg_name (i := 3) sc__law_is_joined.nd) (sb_one (ss_if (SW.st' (sw_and (st_notN (se_var (i := 3))) (sw_and1 (SW.st' (sw_or (st_not (st_val (se_callB (dc_isi h.kcs h.kit) (by rfl) (h.b 9) (by rfl) (sa_cons (se_var (i := 3)) (sa_cons (se_ty (by rfl) (h.b 2) (by rfl)) sa_nil))))) (sw_or1 (st_val (se_callB (dc_isi h.kcs h.kit) (by rfl) (h.b 9) (by rfl) (sa_cons (se_var (i := 3)) (sa_cons (se_ty (by rfl) (h.b 3) (by rfl)) sa_nil)))))))))) (sb_one (ss_ret se_bl)) sb_nil)))
   (sb_cons (ss_asg (se_var (i := 2)) (sg_tup (gs := [(gN 4), (gN 5)]) fr.calm (sgs_cons (sg_name (i := 4) sc__law_is_joined.nd) (sgs_cons (sg_name (i := 5) sc__law_is_joined.nd) sgs_nil))))
   (sb_cons (ss_if (SW.st' (sw_or (SW.st' (sw_and (st_isN (se_var (i := 4))) (sw_and1 (st_cmp dop_gtI (se_var (i := 1)) se_int (by rfl))))) (sw_or1 (SW.st' (sw_and (st_isN (se_var (i := 5))) (sw_and1 (st_cmp dop_ltI (se_bin dop_addI (se_var (i := 1)) se_int) (se_callB dc_len (by rfl) (h.b 0) (by rfl) (sa_cons (se_var (i := 0)) sa_nil)) (by rfl)))))))) (sb_one (ss_ret se_bl)) sb_nil)
   (sb_cons (ss_if (SW.st' (sw_and (st_notN (se_var (i := 4))) (sw_and (st_notN (se_var (i := 5))) (sw_and1 (st_cmp dop_gtI (se_var (i := 4)) (se_var (i := 5)) (by rfl)))))) (sb_one (ss_ret se_bl)) sb_nil)
   (sb_one (ss_if (SW.st' (sw_and (st_cmp dop_gtI (se_var (i := 1)) se_int (by rfl)) (sw_and1 (st_cmp dop_geI (se_bin dop_addI (se_ix (se_ix (se_var (i := 0)) (se_bin dop_subI (se_var (i := 1)) se_int)) se_int) se_int) (se_var (i := 4)) (by rfl))))) (sb_one (ss_ret se_bl)) sb_nil))))))))
  (sb_one (ss_ret se_bl))))) (FD.bindsN fun _ _ _ _ _ _ us hl => match us, hl with | [_], _ => rfl)
abbrev s__law_made : Stmt := top 20
def m__law_made (CA : Ly) : MS :=
  (mSeq (mBox (mCB (un1 listD) (aCons (mVar 1) aNil)) 2)
  (mSeq (mAsg (mCM (CA 0) (r_Ranges_empty CA) (mC (.adr (CA 0))) aNil) (gN 3))
  (mSeq (mWhile (mTest (mBin neD (mVar 2) (mLst aNil))) (mSeq (mAsg (mBm popD (mVar 2) (aCons (mF (r__law_draw CA) (aCons (mVar 0) (aCons (mCB (un1 lenD) (aCons (mVar 2) aNil)) aNil))) aNil)) (gTup [(gN 4), (gN 5)]))
   (mSeq (mAsg (mCM (CA 0) (r_Ranges_between CA) (mC (.adr (CA 0))) (aCons (mVar 4) (aCons (mVar 5) aNil))) (gN 6))
   (mSeq (mIfS (mAnd (mTest (mUn notN (mVar 4))) (mAnd (mTest (mBin eqD (mVar 4) (mVar 5))) (mTest (mBin eqD (mF (r__law_draw CA) (aCons (mVar 0) (aCons (mC (.int 2)) aNil))) (mC (.int 0)))))) (mAsg (mCM (CA 0) (r_Ranges_of CA) (mC (.adr (CA 0))) (aCons (mVar 4) (aCons (mVar 4) aNil))) (gN 6)) mSkip)
   (mAsg (mBin ixD (mLst (aCons (mBin (fun x y bx => noX (binC 0 (r_Ranges___or__ CA) x y bx)) (mVar 3) (mVar 6)) (aCons (mBin (fun x y bx => noX (binC 0 (r_Ranges___or__ CA) x y bx)) (mVar 6) (mVar 3)) aNil))) (mF (r__law_draw CA) (aCons (mVar 0) (aCons (mC (.int 2)) aNil)))) (gN 3))))) 99)
  (mRet (mVar 3)))))
def g__law_made (CA : Ly) : MF := body 7 (m__law_made CA)
def r__law_made (CA : Ly) : MF := ar 2 (g__law_made CA)
theorem sc__law_made : FnScope ["pen", "stretches", "left", "found", "low", "high", "one"] ["pen", "stretches"] (defScope s__law_made) := C8.fnScope_by (by decide +kernel)
theorem F__law_made (h : Ht K mg base CA) : FnR P w K mg base (L2.CX P w) 6 (He.fAd K ("_law_made", none)) (spR K CA (r__law_made CA)) := by
  obtain ⟨fd, FD⟩ := h.fn 24
  exact fn_all (sf_of FD sc__law_made fun cdv A outer s H E hr fr =>
  (sb_cons (ss_box (i := 2) (se_callTy dc_list (by rfl) (h.b 4) (by rfl) (sa_cons (se_var (i := 1)) sa_nil)) sc__law_made.nd)
  (sb_cons (ss_set (i := 3) (se_cm0 fr.tk h.cr (h.cm 3) (F_Ranges_empty (P := P) (w := w) (base := base) h) (hr.mono (j := 5) (by decide)) (se_glob (by rfl) h.gC)) sc__law_made.nd)
  (sb_cons (ss_while 99 fr (st_cmp (dop_neD hr.u64) (se_var (i := 2)) (se_lst sa_nil) (by rfl)) (sb_cons (ss_asg (se_bm F.plainAttrs_list F.slot_list_pop (by rfl) dml_pop (se_var (i := 2)) (sa_cons (se_callG (df_fn fr.tk (F__law_draw (P := P) (w := w) (base := base) h) (hr.mono (j := 1) (by decide)) (h.kp 11)) (by rfl) (h.g 11) (sa_cons (se_var (i := 0)) (sa_cons (se_callB dc_len (by rfl) (h.b 0) (by rfl) (sa_cons (se_var (i := 2)) sa_nil)) sa_nil))) sa_nil)) (sg_tup (gs := [(gN 4), (gN 5)]) fr.calm (sgs_cons (sg_name (i := 4) sc__law_made.nd) (sgs_cons (sg_name (i := 5) sc__law_made.nd) sgs_nil))))
   (sb_cons (ss_set (i := 6) (se_cm fr.tk h.cr (h.cm 1) (F_Ranges_between (P := P) (w := w) (base := base) h) (hr.mono (j := 5) (by decide)) (se_glob (by rfl) h.gC) (sa_cons (se_var (i := 4)) (sa_cons (se_var (i := 5)) sa_nil))) sc__law_made.nd)
   (sb_cons (ss_if (SW.st' (sw_and (st_notN (se_var (i := 4))) (sw_and (st_cmp (dop_eqD hr.u64) (se_var (i := 4)) (se_var (i := 5)) (by rfl)) (sw_and1 (st_cmp (dop_eqD hr.u64) (se_callG (df_fn fr.tk (F__law_draw (P := P) (w := w) (base := base) h) (hr.mono (j := 1) (by decide)) (h.kp 11)) (by rfl) (h.g 11) (sa_cons (se_var (i := 0)) (sa_cons se_int sa_nil))) se_int (by rfl)))))) (sb_one (ss_set (i := 6) (se_cm fr.tk h.cr (h.cm 0) (F_Ranges_of (P := P) (w := w) (base := base) h) (hr.mono (j := 5) (by decide)) (se_glob (by rfl) h.gC) (sa_cons (se_var (i := 4)) (sa_cons (se_var (i := 4)) sa_nil))) sc__law_made.nd)) sb_nil)
   (sb_one (ss_set (i := 3) (se_ix (se_lst (sa_cons (se_bin (dop_binC (c := 0) h.sf (h.fd 0) (h.ff 0) (F_Ranges___or__ (P := P) (w := w) (base := base) h) (hr.mono (j := 5) (by decide))) (se_var (i := 3)) (se_var (i := 6))) (sa_cons (se_bin (dop_binC (c := 0) h.sf (h.fd 0) (h.ff 0) (F_Ranges___or__ (P := P) (w := w) (base := base) h) (hr.mono (j := 5) (by decide))) (se_var (i := 6)) (se_var (i := 3))) sa_nil))) (se_callG (df_fn fr.tk (F__law_draw (P := P) (w := w) (base := base) h) (hr.mono (j := 1) (by decide)) (h.kp 11)) (by rfl) (h.g 11) (sa_cons (se_var (i := 0)) (sa_cons se_int sa_nil)))) sc__law_made.nd))))))
  (sb_one (ss_ret (se_var (i := 3)))))))) (FD.bindsN fun _ _ _ _ _ _ us hl => match us, hl with | [_, _], _ => rfl)
abbrev s__law_same : Stmt := top 21
def m__law_same (CA : Ly) : MS :=
  (mSeq (mFor (iSeq (mF (r__law_points CA) (aCons (mBin addL (mVar 0) (mVar 1)) aNil))) (gN 2) (mIfS (mTest (mBin neD (mF (r__law_has CA) (aCons (mVar 0) (aCons (mVar 2) aNil))) (mF (r__law_has CA) (aCons (mVar 1) (aCons (mVar 2) aNil))))) (mRet (mC (.bl false))) mSkip))
  (mRet (mC (.bl true))))
def g__law_same (CA : Ly) : MF := body 3 (m__law_same CA)
def r__law_same (CA : Ly) : MF := ar 2 (g__law_same CA)
theorem sc__law_same : FnScope ["one", "other", "number"] ["one", "other"] (defScope s__law_same) := C8.fnScope_by (by decide +kernel)
theorem F__law_same (h : Ht K mg base CA) : FnR P w K mg base (L2.CX P w) 2 (He.fAd K ("_law_same", none)) (spR K CA (r__law_same CA)) := by
  obtain ⟨fd, FD⟩ := h.fn 25
  exact fn_all (sf_of FD sc__law_same fun cdv A outer s H E hr fr =>
  (sb_cons (ss_for fr (si_seq (se_callG (df_fn fr.tk (F__law_points (P := P) (w := w) (base := base) h) (hr.mono (j := 1) (by decide)) (h.kp 15)) (by rfl) (h.g 15) (sa_cons (se_bin dop_addL (se_var (i := 0)) (se_var (i := 1))) sa_nil))) (sg_name (i := 2) sc__law_same.nd) (sb_one (ss_if (st_cmp (dop_neD hr.u64) (se_callG (df_fn fr.tk (F__law_has (P := P) (w := w) (base := base) h) (hr.mono (j := 1) (by decide)) (h.kp 14)) (by rfl) (h.g 14) (sa_cons (se_var (i := 0)) (sa_cons (se_var (i := 2)) sa_nil))) (se_callG (df_fn fr.tk (F__law_has (P := P) (w := w) (base := base) h) (hr.mono (j := 1) (by decide)) (h.kp 14)) (by rfl) (h.g 14) (sa_cons (se_var (i := 1)) (sa_cons (se_var (i := 2)) sa_nil))) (by rfl)) (sb_one (ss_ret se_bl)) sb_nil)))
  (sb_one (ss_ret se_bl)))) (FD.bindsN fun _ _ _ _ _ _ us hl => match us, hl with | [_, _], _ => rfl)
abbrev s__law_is_right : Stmt := top 22
def m__law_is_right (CA : Ly) : MS :=
  (mSeq (mIfS (mOr (mNot (mTest (mF (r__law_is_joined CA) (aCons (mUn (fldD "parts" [0]) (mVar 0)) aNil)))) (mNot (mTest (mF (r__law_same CA) (aCons (mCB (un1 listD) (aCons (mUn (fldD "parts" [0]) (mVar 0)) aNil)) (aCons (mVar 1) aNil)))))) (mRet (mC (.bl false))) mSkip)
  (mSeq (mFor (iSeq (mF (r__law_points CA) (aCons (mVar 1) aNil))) (gN 2) (mIfS (mTest (mBin neD (mBin (fun x y bx => noX (inC 0 (r_Ranges___contains__ CA) posO x y bx)) (mVar 2) (mVar 0)) (mF (r__law_has CA) (aCons (mVar 1) (aCons (mVar 2) aNil))))) (mRet (mC (.bl false))) mSkip))
  (mSeq (mFor (iSeq (mLst (aCons (mC .non) (aCons (mC (.bl true)) (aCons (mC (.bl false)) (aCons (mC (.str "0")) (aCons (mC (.str "")) (aCons (mTup (aCons (mC (.int 0)) aNil)) (aCons (mLst aNil) (aCons (mLst (aCons (mC (.int 0)) aNil)) (aCons (mDic [] []) (aCons (mDic [.inl 0] [.int 0]) (aCons (mUn (fldD "parts" [0]) (mVar 0)) aNil))))))))))))) (gN 3) (mIfS (mTest (mBin (fun x y bx => noX (inC 0 (r_Ranges___contains__ CA) posO x y bx)) (mVar 3) (mVar 0))) (mRet (mC (.bl false))) mSkip))
  (mRet (mBin eqD (mCB (un1 fun x bx => noX (boolC 0 (r_Ranges___bool__ CA) x bx)) (aCons (mVar 0) aNil)) (mBin neD (mVar 1) (mLst aNil)))))))
def g__law_is_right (CA : Ly) : MF := body 4 (m__law_is_right CA)
def r__law_is_right (CA : Ly) : MF := ar 2 (g__law_is_right CA)
theorem sc__law_is_right : FnScope ["made", "stretches", "number", "odd"] ["made", "stretches"] (defScope s__law_is_right) := C8.fnScope_by (by decide +kernel)
theorem F__law_is_right (h : Ht K mg base CA) : FnR P w K mg base (L2.CX P w) 4 (He.fAd K ("_law_is_right", none)) (spR K CA (r__law_is_right CA)) := by
  obtain ⟨fd, FD⟩ := h.fn 26
  exact fn_all (sf_of FD sc__law_is_right fun cdv A outer s H E hr fr =>
  (sb_cons (ss_if (SW.st' (sw_or (st_not (st_val (se_callG (df_fn fr.tk (F__law_is_joined (P := P) (w := w) (base := base) h) (hr.mono (j := 1) (by decide)) (h.kp 16)) (by rfl) (h.g 16) (sa_cons (se_fld (se_var (i := 0)) h.nas) sa_nil)))) (sw_or1 (st_not (st_val (se_callG (df_fn fr.tk (F__law_same (P := P) (w := w) (base := base) h) (hr.mono (j := 2) (by decide)) (h.kp 18)) (by rfl) (h.g 18) (sa_cons (se_callTy dc_list (by rfl) (h.b 4) (by rfl) (sa_cons (se_fld (se_var (i := 0)) h.nas) sa_nil)) (sa_cons (se_var (i := 1)) sa_nil)))))))) (sb_one (ss_ret se_bl)) sb_nil)
  (sb_cons (ss_for fr (si_seq (se_callG (df_fn fr.tk (F__law_points (P := P) (w := w) (base := base) h) (hr.mono (j := 1) (by decide)) (h.kp 15)) (by rfl) (h.g 15) (sa_cons (se_var (i := 1)) sa_nil))) (sg_name (i := 2) sc__law_is_right.nd) (sb_one (ss_if (st_cmp (dop_neD hr.u64) (se_cmp (dop_inC (c := 0) (h.fd 4) (h.ff 4) (F_Ranges___contains__ (P := P) (w := w) (base := base) h) (hr.mono (j := 2) (by decide))) (se_var (i := 2)) (se_var (i := 0)) (by rfl)) (se_callG (df_fn fr.tk (F__law_has (P := P) (w := w) (base := base) h) (hr.mono (j := 1) (by decide)) (h.kp 14)) (by rfl) (h.g 14) (sa_cons (se_var (i := 1)) (sa_cons (se_var (i := 2)) sa_nil))) (by rfl)) (sb_one (ss_ret se_bl)) sb_nil)))
  (sb_cons (ss_for fr (si_seq (se_lst (sa_cons se_non (sa_cons se_bl (sa_cons se_bl (sa_cons se_str (sa_cons se_str (sa_cons (se_tup (sa_cons se_int sa_nil)) (sa_cons (se_lst sa_nil) (sa_cons (se_lst (sa_cons se_int sa_nil)) (sa_cons se_dic0 (sa_cons se_dic1 (sa_cons (se_fld (se_var (i := 0)) h.nas) sa_nil))))))))))))) (sg_name (i := 3) sc__law_is_right.nd) (sb_one (ss_if (st_cmp (dop_inC (c := 0) (h.fd 4) (h.ff 4) (F_Ranges___contains__ (P := P) (w := w) (base := base) h) (hr.mono (j := 2) (by decide))) (se_var (i := 3)) (se_var (i := 0)) (by rfl)) (sb_one (ss_ret se_bl)) sb_nil)))
  (sb_one (ss_ret (se_cmp (dop_eqD hr.u64) (se_callTy (dc_boolC (c := 0) (h.fd 5) (h.ff 5) (F_Ranges___bool__ (P := P) (w := w) (base := base) h) (hr.mono (j := 3) (by decide))) (by rfl) (h.b 3) (by rfl) (sa_cons (se_var (i := 0)) sa_nil)) (se_cmp (dop_neD hr.u64) (se_var (i := 1)) (se_lst sa_nil) (by rfl)) (by rfl)))))))) (FD.bindsN fun _ _ _ _ _ _ us hl => match us, hl with | [_, _], _ => rfl)
abbrev s__law_alike : Stmt := top 23
def m__law_alike (CA : Ly) : MS :=
  (mRet (mBin eqD (mLst (aCons (mBin (fun x y bx => noX (eqC [0] 0 (r_Ranges___eq__ CA) x y bx)) (mVar 0) (mVar 1)) (aCons (mBin (fun x y bx => noX (eqC [0] 0 (r_Ranges___eq__ CA) x y bx)) (mVar 1) (mVar 0)) (aCons (mBin (fun x y bx => noX (neC [0] 0 (r_Ranges___eq__ CA) x y bx)) (mVar 0) (mVar 1)) (aCons (mBin (fun x y bx => noX (neC [0] 0 (r_Ranges___eq__ CA) x y bx)) (mVar 1) (mVar 0)) aNil))))) (mLst (aCons (mVar 2) (aCons (mVar 2) (aCons (mNotV (mVar 2)) (aCons (mNotV (mVar 2)) aNil)))))))
def g__law_alike (CA : Ly) : MF := body 3 (m__law_alike CA)
def r__law_alike (CA : Ly) : MF := ar 3 (g__law_alike CA)
theorem sc__law_alike : FnScope ["one", "other", "due"] ["one", "other", "due"] (defScope s__law_alike) := C8.fnScope_by (by decide +kernel)
theorem F__law_alike (h : Ht K mg base CA) : FnR P w K mg base (L2.CX P w) 3 (He.fAd K ("_law_alike", none)) (spR K CA (r__law_alike CA)) := by
  obtain ⟨fd, FD⟩ := h.fn 27
  exact fn_all (sf_of FD sc__law_alike fun cdv A outer s H E hr fr =>
  (sb_one (ss_ret (se_cmp (dop_eqD hr.u64) (se_lst (sa_cons (se_cmp (dop_eqC h.kcs h.eq (F_Ranges___eq__ (P := P) (w := w) (base := base) h) (hr.mono (j := 1) (by decide))) (se_var (i := 0)) (se_var (i := 1)) (by rfl)) (sa_cons (se_cmp (dop_eqC h.kcs h.eq (F_Ranges___eq__ (P := P) (w := w) (base := base) h) (hr.mono (j := 1) (by decide))) (se_var (i := 1)) (se_var (i := 0)) (by rfl)) (sa_cons (se_cmp (dop_neC h.kcs h.eq (F_Ranges___eq__ (P := P) (w := w) (base := base) h) (hr.mono (j := 2) (by decide))) (se_var (i := 0)) (se_var (i := 1)) (by rfl)) (sa_cons (se_cmp (dop_neC h.kcs h.eq (F_Ranges___eq__ (P := P) (w := w) (base := base) h) (hr.mono (j := 2) (by decide))) (se_var (i := 1)) (se_var (i := 0)) (by rfl)) sa_nil))))) (se_lst (sa_cons (se_var (i := 2)) (sa_cons (se_var (i := 2)) (sa_cons (se_not (se_var (i := 2))) (sa_cons (se_not (se_var (i := 2))) sa_nil))))) (by rfl))))) (FD.bindsN fun _ _ _ _ _ _ us hl => match us, hl with | [_, _, _], _ => rfl)
abbrev s__law_part_one : Stmt := top 24
def m__law_part_one (CA : Ly) : MS :=
  (mSeq (mBox (mF (r__law_pen CA) (aCons (mVar 0) aNil)) 1)
  (mSeq (mBox (mLst aNil) 2)
  (mSeq (mFor (iRng1M (mC (.int 4))) (gN 3) (mSeq (mAsg (mF (r__law_stretches CA) (aCons (mVar 1) (aCons (mC (.int 6)) aNil))) (gN 12))
   (mSeq (mAsg (mF (r__law_made CA) (aCons (mVar 1) (aCons (mVar 12) aNil))) (gN 13))
   (mSeq (mIfS (mOr (mNot (mTest (mF (r__law_is_right CA) (aCons (mVar 13) (aCons (mVar 12) aNil))))) (mNot (mTest (mF (r__law_alike CA) (aCons (mVar 13) (aCons (mF (r__law_made CA) (aCons (mVar 1) (aCons (mVar 12) aNil))) (aCons (mC (.bl true)) aNil))))))) (mRet (mC (.bl false))) mSkip)
   (mSeq (mFor (iSeq (mLst (aCons (mC .non) (aCons (mUn (fldD "parts" [0]) (mVar 13)) (aCons (mVar 12) (aCons (mC (.int 0)) (aCons (mC (.str "")) (aCons (mC (.bl true)) aNil)))))))) (gN 14) (mIfS (mNot (mTest (mF (r__law_alike CA) (aCons (mVar 13) (aCons (mVar 14) (aCons (mC (.bl false)) aNil)))))) (mRet (mC (.bl false))) mSkip))
   (mExpr (mBm appD (mVar 2) (aCons (mTup (aCons (mVar 13) (aCons (mVar 12) aNil))) aNil))))))))
  (mSeq (mForB 99 (mVar 2) (gTup [(gN 4), (gN 5)]) (mForB 99 (mVar 2) (gTup [(gN 15), (gN 16)]) (mIfS (mNot (mTest (mF (r__law_alike CA) (aCons (mVar 4) (aCons (mVar 15) (aCons (mF (r__law_same CA) (aCons (mVar 5) (aCons (mVar 16) aNil))) aNil)))))) (mRet (mC (.bl false))) mSkip)))
  (mSeq (mAsg (mBin subI (mBin powI (mC (.int 10)) (mC (.int 12))) (mC (.int 1))) (gN 6))
  (mSeq (mAsg (mBin (fun x y bx => noX (binC 0 (r_Ranges___or__ CA) x y bx)) (mBin (fun x y bx => noX (binC 0 (r_Ranges___or__ CA) x y bx)) (mCM (CA 0) (r_Ranges_between CA) (mC (.adr (CA 0))) (aCons (mBin subI (mVar 6) (mC (.int 2))) (aCons (mVar 6) aNil))) (mCM (CA 0) (r_Ranges_of CA) (mC (.adr (CA 0))) (aCons (mBin subI (mVar 6) (mC (.int 3))) (aCons (mBin subI (mC (.int 0)) (mVar 6)) aNil)))) (mCM (CA 0) (r_Ranges_between CA) (mC (.adr (CA 0))) (aCons (mBin subI (mC (.int 1)) (mVar 6)) (aCons (mBin subI (mC (.int 2)) (mVar 6)) aNil)))) (gN 7))
  (mSeq (mIfS (mNot (mTest (mF (r__law_is_right CA) (aCons (mVar 7) (aCons (mLst (aCons (mTup (aCons (mBin subI (mC (.int 0)) (mVar 6)) (aCons (mBin subI (mC (.int 2)) (mVar 6)) aNil))) (aCons (mTup (aCons (mBin subI (mVar 6) (mC (.int 3))) (aCons (mVar 6) aNil))) aNil))) aNil))))) (mRet (mC (.bl false))) mSkip)
  (mSeq (mIfS (mOr (mTest (mBin (fun x y bx => noX (inC 0 (r_Ranges___contains__ CA) negO x y bx)) (mBin powI (mC (.int 10)) (mC (.int 59))) (mCM (CA 0) (r_Ranges_full CA) (mC (.adr (CA 0))) aNil))) (mOr (mTest (mBin (fun x y bx => noX (inC 0 (r_Ranges___contains__ CA) posO x y bx)) (mBin powI (mC (.int 10)) (mC (.int 59))) (mCM (CA 0) (r_Ranges_between CA) (mC (.adr (CA 0))) (aCons (mC .non) (aCons (mVar 6) aNil))))) (mTest (mBin (fun x y bx => noX (inC 0 (r_Ranges___contains__ CA) posO x y bx)) (mBin subI (mC (.int 0)) (mBin powI (mC (.int 10)) (mC (.int 59)))) (mVar 7))))) (mRet (mC (.bl false))) mSkip)
  (mSeq (mAsg (mComp (iRng1M (mC (.int 4))) (([("turn", 3)] : List (PySem.Str × Nat)).map (·.2)) (gN 3) mYes (mF (r__law_end CA) (aCons (mVar 1) aNil))) (gN 8))
  (mSeq (mAsg (mCM (CA 0) (r_Ranges_of CA) (mC (.adr (CA 0))) (aCons (mBin ixD (mVar 8) (mC (.int 0))) (aCons (mBin ixD (mVar 8) (mC (.int 1))) (aCons (mBin ixD (mVar 8) (mC (.int 0))) (aCons (mBin ixD (mVar 8) (mC (.int 2))) (aCons (mBin ixD (mVar 8) (mC (.int 3))) aNil)))))) (gN 9))
  (mSeq (mIfS (mOr (mNot (mTest (mF (r__law_is_right CA) (aCons (mVar 9) (aCons (mComp (iSeq (mVar 8)) (([("number", 17)] : List (PySem.Str × Nat)).map (·.2)) (gN 17) mYes (mTup (aCons (mVar 17) (aCons (mVar 17) aNil)))) aNil))))) (mNot (mTest (mF (r__law_is_right CA) (aCons (mCM (CA 0) (r_Ranges_of CA) (mC (.adr (CA 0))) aNil) (aCons (mLst aNil) aNil)))))) (mRet (mC (.bl false))) mSkip)
  (mSeq (mPar2 10 11 (aCons (mCB (un2 max2) (aCons (mBin ixD (mVar 8) (mC (.int 0))) (aCons (mBin ixD (mVar 8) (mC (.int 1))) aNil))) (aCons (mCB (un2 min2) (aCons (mBin ixD (mVar 8) (mC (.int 0))) (aCons (mBin ixD (mVar 8) (mC (.int 1))) aNil))) aNil)))
  (mSeq (mIfS (mNot (mTest (mF (r__law_is_right CA) (aCons (mCM (CA 0) (r_Ranges_between CA) (mC (.adr (CA 0))) (aCons (mVar 10) (aCons (mVar 11) aNil))) (aCons (mIf (mTest (mBin eqD (mVar 10) (mVar 11))) (mLst (aCons (mTup (aCons (mVar 10) (aCons (mVar 11) aNil))) aNil)) (mLst aNil)) aNil))))) (mRet (mC (.bl false))) mSkip)
  (mSeq (mIfS (mOr (mNot (mTest (mF (r__law_is_right CA) (aCons (mCM (CA 0) (r_Ranges_between CA) (mC (.adr (CA 0))) (aCons (mC .non) (aCons (mC .non) aNil))) (aCons (mLst (aCons (mTup (aCons (mC .non) (aCons (mC .non) aNil))) aNil)) aNil))))) (mTest (mBin neD (mUn (fldD "parts" [0]) (mCM (CA 0) (r_Ranges_full CA) (mC (.adr (CA 0))) aNil)) (mTup (aCons (mTup (aCons (mC .non) (aCons (mC .non) aNil))) aNil))))) (mRet (mC (.bl false))) mSkip)
  (mRet (mAndV (mF (r__law_alike CA) (aCons (mCM (CA 0) (r_Ranges_empty CA) (mC (.adr (CA 0))) aNil) (aCons (mCM (CA 0) (r_Ranges_of CA) (mC (.adr (CA 0))) aNil) (aCons (mC (.bl true)) aNil)))) (mBin eqD (mUn (fldD "parts" [0]) (mCM (CA 0) (r_Ranges_empty CA) (mC (.adr (CA 0))) aNil)) (mTup aNil))))))))))))))))))
def g__law_part_one (CA : Ly) : MF := body 18 (m__law_part_one CA)
def r__law_part_one (CA : Ly) : MF := ar 1 (g__law_part_one CA)
theorem sc__law_part_one : FnScope ["script", "pen", "sets_so", "turn", "one", "mine", "top", "edge", "numbers", "several", "low", "high", "stretches", "made", "odd", "other", "yours", "number"] ["script"] (defScope s__law_part_one) := C8.fnScope_by (by decide +kernel)
theorem F__law_part_one (h : Ht K mg base CA) : FnR P w K mg base (L2.CX P w) 7 (He.fAd K ("_law_part_one", none)) (spR K CA (r__law_part_one CA)) := by
  obtain ⟨fd, FD⟩ := h.fn 28
  exact fn_all (sf_of FD sc__law_part_one fun cdv A outer s H E hr fr =>
  (sb_cons (ss_box (i := 1) (se_callG (df_fn fr.tk (F__law_pen (P := P) (w := w) (base := base) h) (hr.mono (j := 1) (by decide)) (h.kp 10)) (by rfl) (h.g 10) (sa_cons (se_var (i := 0)) sa_nil)) sc__law_part_one.nd)
  (sb_cons (ss_box (i := 2) (se_lst sa_nil) sc__law_part_one.nd)
  (sb_cons (ss_for fr (si_rng1 (by rfl) (h.b 10) se_int) (sg_name (i := 3) sc__law_part_one.nd) (sb_cons (ss_set (i := 12) (se_callG (df_fn fr.tk (F__law_stretches (P := P) (w := w) (base := base) h) (hr.mono (j := 3) (by decide)) (h.kp 13)) (by rfl) (h.g 13) (sa_cons (se_var (i := 1)) (sa_cons se_int sa_nil))) sc__law_part_one.nd)
   (sb_cons (ss_set (i := 13) (se_callG (df_fn fr.tk (F__law_made (P := P) (w := w) (base := base) h) (hr.mono (j := 6) (by decide)) (h.kp 17)) (by rfl) (h.g 17) (sa_cons (se_var (i := 1)) (sa_cons (se_var (i := 12)) sa_nil))) sc__law_part_one.nd)
   (sb_cons (ss_if (SW.st' (sw_or (st_not (st_val (se_callG (df_fn fr.tk (F__law_is_right (P := P) (w := w) (base := base) h) (hr.mono (j := 4) (by decide)) (h.kp 19)) (by rfl) (h.g 19) (sa_cons (se_var (i := 13)) (sa_cons (se_var (i := 12)) sa_nil))))) (sw_or1 (st_not (st_val (se_callG (df_fn fr.tk (F__law_alike (P := P) (w := w) (base := base) h) (hr.mono (j := 3) (by decide)) (h.kp 20)) (by rfl) (h.g 20) (sa_cons (se_var (i := 13)) (sa_cons (se_callG (df_fn fr.tk (F__law_made (P := P) (w := w) (base := base) h) (hr.mono (j := 6) (by decide)) (h.kp 17)) (by rfl) (h.g 17) (sa_cons (se_var (i := 1)) (sa_cons (se_var (i := 12)) sa_nil))) (sa_cons se_bl sa_nil))))))))) (sb_one (ss_ret se_bl)) sb_nil)
   (sb_cons (ss_for fr (si_seq (se_lst (sa_cons se_non (sa_cons (se_fld (se_var (i := 13)) h.nas) (sa_cons (se_var (i := 12)) (sa_cons se_int (sa_cons se_str (sa_cons se_bl sa_nil)))))))) (sg_name (i := 14) sc__law_part_one.nd) (sb_one (ss_if (st_not (st_val (se_callG (df_fn fr.tk (F__law_alike (P := P) (w := w) (base := base) h) (hr.mono (j := 3) (by decide)) (h.kp 20)) (by rfl) (h.g 20) (sa_cons (se_var (i := 13)) (sa_cons (se_var (i := 14)) (sa_cons se_bl sa_nil)))))) (sb_one (ss_ret se_bl)) sb_nil)))
   (sb_one (ss_expr (se_bm F.plainAttrs_list F.slot_list_append (by rfl) dml_append (se_var (i := 2)) (sa_cons (se_tup (sa_cons (se_var (i := 13)) (sa_cons (se_var (i := 12)) sa_nil))) sa_nil)))))))))
  (sb_cons (ss_forB 99 fr (se_var (i := 2)) (sg_tup (gs := [(gN 4), (gN 5)]) fr.calm (sgs_cons (sg_name (i := 4) sc__law_part_one.nd) (sgs_cons (sg_name (i := 5) sc__law_part_one.nd) sgs_nil))) (sb_one (ss_forB 99 fr (se_var (i := 2)) (sg_tup (gs := [(gN 15), (gN 16)]) fr.calm (sgs_cons (sg_name (i := 15) sc__law_part_one.nd) (sgs_cons (sg_name (i := 16) sc__law_part_one.nd) sgs_nil))) (sb_one (ss_if (st_not (st_val (se_callG (df_fn fr.tk (F__law_alike (P := P) (w := w) (base := base) h) (hr.mono (j := 3) (by decide)) (h.kp 20)) (by rfl) (h.g 20) (sa_cons (se_var (i := 4)) (sa_cons (se_var (i := 15)) (sa_cons (se_callG (df_fn fr.tk (F__law_same (P := P) (w := w) (base := base) h) (hr.mono (j := 2) (by decide)) (h.kp 18)) (by rfl) (h.g 18) (sa_cons (se_var (i := 5)) (sa_cons (se_var (i := 16)) sa_nil))) sa_nil)))))) (sb_one (ss_ret se_bl)) sb_nil)))))
  (sb_cons (ss_set (i := 6) (se_bin dop_subI (se_bin dop_powI se_int se_int) se_int) sc__law_part_one.nd)
  (sb_cons (ss_set (i := 7) (se_bin (dop_binC (c := 0) h.sf (h.fd 0) (h.ff 0) (F_Ranges___or__ (P := P) (w := w) (base := base) h) (hr.mono (j := 5) (by decide))) (se_bin (dop_binC (c := 0) h.sf (h.fd 0) (h.ff 0) (F_Ranges___or__ (P := P) (w := w) (base := base) h) (hr.mono (j := 5) (by decide))) (se_cm fr.tk h.cr (h.cm 1) (F_Ranges_between (P := P) (w := w) (base := base) h) (hr.mono (j := 5) (by decide)) (se_glob (by rfl) h.gC) (sa_cons (se_bin dop_subI (se_var (i := 6)) se_int) (sa_cons (se_var (i := 6)) sa_nil))) (se_cm fr.tk h.cr (h.cm 0) (F_Ranges_of (P := P) (w := w) (base := base) h) (hr.mono (j := 5) (by decide)) (se_glob (by rfl) h.gC) (sa_cons (se_bin dop_subI (se_var (i := 6)) se_int) (sa_cons (se_bin dop_subI se_int (se_var (i := 6))) sa_nil)))) (se_cm fr.tk h.cr (h.cm 1) (F_Ranges_between (P := P) (w := w) (base := base) h) (hr.mono (j := 5) (by decide)) (se_glob (by rfl) h.gC) (sa_cons (se_bin dop_subI se_int (se_var (i := 6))) (sa_cons (se_bin dop_subI se_int (se_var (i := 6))) sa_nil)))) sc__law_part_one.nd)
  (sb_cons (ss_if (st_not (st_val (se_callG (df_fn fr.tk (F__law_is_right (P := P) (w := w) (base := base) h) (hr.mono (j := 4) (by decide)) (h.kp 19)) (by rfl) (h.g 19) (sa_cons (se_var (i := 7)) (sa_cons (se_lst (sa_cons (se_tup (sa_cons (se_bin dop_subI se_int (se_var (i := 6))) (sa_cons (se_bin dop_subI se_int (se_var (i := 6))) sa_nil))) (sa_cons (se_tup (sa_cons (se_bin dop_subI (se_var (i := 6)) se_int) (sa_cons (se_var (i := 6)) sa_nil))) sa_nil))) sa_nil))))) (sb_one (ss_ret se_bl)) sb_nil)
  (sb_cons (ss_if (SW.st' (sw_or (st_cmp (dop_notInC (c := 0) (h.fd 4) (h.ff 4) (F_Ranges___contains__ (P := P) (w := w) (base := base) h) (hr.mono (j := 2) (by decide))) (se_bin dop_powI se_int se_int) (se_cm0 fr.tk h.cr (h.cm 2) (F_Ranges_full (P := P) (w := w) (base := base) h) (hr.mono (j := 5) (by decide)) (se_glob (by rfl) h.gC)) (by rfl)) (sw_or (st_cmp (dop_inC (c := 0) (h.fd 4) (h.ff 4) (F_Ranges___contains__ (P := P) (w := w) (base := base) h) (hr.mono (j := 2) (by decide))) (se_bin dop_powI se_int se_int) (se_cm fr.tk h.cr (h.cm 1) (F_Ranges_between (P := P) (w := w) (base := base) h) (hr.mono (j := 5) (by decide)) (se_glob (by rfl) h.gC) (sa_cons se_non (sa_cons (se_var (i := 6)) sa_nil))) (by rfl)) (sw_or1 (st_cmp (dop_inC (c := 0) (h.fd 4) (h.ff 4) (F_Ranges___contains__ (P := P) (w := w) (base := base) h) (hr.mono (j := 2) (by decide))) (se_bin dop_subI se_int (se_bin dop_powI se_int se_int)) (se_var (i := 7)) (by rfl)))))) (sb_one (ss_ret se_bl)) sb_nil)
  (sb_cons (ss_setComp (i := 8) (own := [("turn", 3)]) fr.calm sc__law_part_one.nd (by rfl) (by rfl) (by rfl) (si_rng1 (by rfl) (h.b 10) se_int) (blkOk_by (by kernel_rfl)) (by decide) (fun s H C cl fp => (sg_name (i := 3) sc__law_part_one.nd)) (fun s H C cl fp => pts_no) (fun s H C cl fp => (se_callG (df_fn DL.takes0 (F__law_end (P := P) (w := w) (base := base) h) (hr.mono (j := 2) (by decide)) (h.kp 12)) (by rfl) (h.g 12) (sa_cons (se_var (i := 1)) sa_nil))))
  (sb_cons (ss_set (i := 9) (se_cm fr.tk h.cr (h.cm 0) (F_Ranges_of (P := P) (w := w) (base := base) h) (hr.mono (j := 5) (by decide)) (se_glob (by rfl) h.gC) (sa_cons (se_ix (se_var (i := 8)) se_int) (sa_cons (se_ix (se_var (i := 8)) se_int) (sa_cons (se_ix (se_var (i := 8)) se_int) (sa_cons (se_ix (se_var (i := 8)) se_int) (sa_cons (se_ix (se_var (i := 8)) se_int) sa_nil)))))) sc__law_part_one.nd)
  (sb_cons (ss_if (SW.st' (sw_or (st_not (st_val (se_callG (df_fn fr.tk (F__law_is_right (P := P) (w := w) (base := base) h) (hr.mono (j := 4) (by decide)) (h.kp 19)) (by rfl) (h.g 19) (sa_cons (se_var (i := 9)) (sa_cons (se_comp (own := [("number", 17)]) fr.calm sc__law_part_one.nd (si_seq (se_var (i := 8))) (blkOk_by (by kernel_rfl)) (by decide) (fun s H C cl fp => (sg_name (i := 17) sc__law_part_one.nd)) (fun s H C cl fp => pts_no) (fun s H C cl fp => (se_tup (sa_cons (se_var (i := 17)) (sa_cons (se_var (i := 17)) sa_nil))))) sa_nil))))) (sw_or1 (st_not (st_val (se_callG (df_fn fr.tk (F__law_is_right (P := P) (w := w) (base := base) h) (hr.mono (j := 4) (by decide)) (h.kp 19)) (by rfl) (h.g 19) (sa_cons (se_cm0 fr.tk h.cr (h.cm 0) (F_Ranges_of (P := P) (w := w) (base := base) h) (hr.mono (j := 5) (by decide)) (se_glob (by rfl) h.gC)) (sa_cons (se_lst sa_nil) sa_nil)))))))) (sb_one (ss_ret se_bl)) sb_nil)
  (sb_cons (ss_par2 10 11 fr.calm sc__law_part_one.nd (sa_cons (se_callB (dc_max2 fr.calm) (by rfl) (h.b 7) (by rfl) (sa_cons (se_ix (se_var (i := 8)) se_int) (sa_cons (se_ix (se_var (i := 8)) se_int) sa_nil))) (sa_cons (se_callB (dc_min2 fr.calm) (by rfl) (h.b 8) (by rfl) (sa_cons (se_ix (se_var (i := 8)) se_int) (sa_cons (se_ix (se_var (i := 8)) se_int) sa_nil))) sa_nil)))
  (sb_cons (ss_if (st_not (st_val (se_callG (df_fn fr.tk (F__law_is_right (P := P) (w := w) (base := base) h) (hr.mono (j := 4) (by decide)) (h.kp 19)) (by rfl) (h.g 19) (sa_cons (se_cm fr.tk h.cr (h.cm 1) (F_Ranges_between (P := P) (w := w) (base := base) h) (hr.mono (j := 5) (by decide)) (se_glob (by rfl) h.gC) (sa_cons (se_var (i := 10)) (sa_cons (se_var (i := 11)) sa_nil))) (sa_cons (se_if (st_cmp (dop_eqD hr.u64) (se_var (i := 10)) (se_var (i := 11)) (by rfl)) (se_lst (sa_cons (se_tup (sa_cons (se_var (i := 10)) (sa_cons (se_var (i := 11)) sa_nil))) sa_nil)) (se_lst sa_nil)) sa_nil))))) (sb_one (ss_ret se_bl)) sb_nil)
  (sb_cons (ss_if (SW.st' (sw_or (st_not (st_val (se_callG (df_fn fr.tk (F__law_is_right (P := P) (w := w) (base := base) h) (hr.mono (j := 4) (by decide)) (h.kp 19)) (by rfl) (h.g 19) (sa_cons (se_cm fr.tk h.cr (h.cm 1) (F_Ranges_between (P := P) (w := w) (base := base) h) (hr.mono (j := 5) (by decide)) (se_glob (by rfl) h.gC) (sa_cons se_non (sa_cons se_non sa_nil))) (sa_cons (se_lst (sa_cons (se_tup (sa_cons se_non (sa_cons se_non sa_nil))) sa_nil)) sa_nil))))) (sw_or1 (st_cmp (dop_neD hr.u64) (se_fld (se_cm0 fr.tk h.cr (h.cm 2) (F_Ranges_full (P := P) (w := w) (base := base) h) (hr.mono (j := 5) (by decide)) (se_glob (by rfl) h.gC)) h.nas) (se_tup (sa_cons (se_tup (sa_cons se_non (sa_cons se_non sa_nil))) sa_nil)) (by rfl))))) (sb_one (ss_ret se_bl)) sb_nil)
  (sb_one (ss_ret (se_and (se_callG (df_fn fr.tk (F__law_alike (P := P) (w := w) (base := base) h) (hr.mono (j := 3) (by decide)) (h.kp 20)) (by rfl) (h.g 20) (sa_cons (se_cm0 fr.tk h.cr (h.cm 3) (F_Ranges_empty (P := P) (w := w) (base := base) h) (hr.mono (j := 5) (by decide)) (se_glob (by rfl) h.gC)) (sa_cons (se_cm0 fr.tk h.cr (h.cm 0) (F_Ranges_of (P := P) (w := w) (base := base) h) (hr.mono (j := 5) (by decide)) (se_glob (by rfl) h.gC)) (sa_cons se_bl sa_nil)))) (se_one (se_cmp (dop_eqD hr.u64) (se_fld (se_cm0 fr.tk h.cr (h.cm 3) (F_Ranges_empty (P := P) (w := w) (base := base) h) (hr.mono (j := 5) (by decide)) (se_glob (by rfl) h.gC)) h.nas) (se_tup sa_nil) (by rfl))))))))))))))))))))) (FD.bindsN fun _ _ _ _ _ _ us hl => match us, hl with | [_], _ => rfl)
abbrev s__law_draw_b : Stmt := top 25
def m__law_draw_b (CA : Ly) : MS :=
  (mSeq (mIfS (mTest (mBin gtI (mBin ixD (mVar 0) (mC (.int 2))) (mC (.int 0)))) (mSeq (mAsg (mBin modI (mCB (un1 intD) (aCons (mBin ixD (mVar 0) (mC (.int 2))) aNil)) (mVar 1)) (gN 5))
   (mSeq (mSetIx (mBin divW (mBin ixD (mVar 0) (mC (.int 2))) (mVar 1)) (mVar 0) (mC (.int 2)))
   (mRet (mVar 5)))) mSkip)
  (mSeq (mAsg (mBin ixD (mVar 0) (mC (.int 1))) (gN 2))
  (mSeq (mSetIx (mBin addI (mVar 2) (mC (.int 1))) (mVar 0) (mC (.int 1)))
  (mSeq (mAsg (mBin addI (mBin mulI (mC (.int 41113)) (mVar 2)) (mC (.int 8))) (gN 3))
  (mSeq (mIfS (mTest (mBin neD (mBin ixD (mVar 0) (mC (.int 0))) (mLst aNil))) (mAsg (mBin ixD (mBin ixD (mVar 0) (mC (.int 0))) (mBin modI (mCB (un1 intD) (aCons (mVar 2) aNil)) (mCB (un1 lenD) (aCons (mBin ixD (mVar 0) (mC (.int 0))) aNil)))) (gN 3)) mSkip)
  (mSeq (mIfS (mAnd (mTest (mBin ltI (mVar 2) (mCB (un1 lenD) (aCons (mBin ixD (mVar 0) (mC (.int 0))) aNil)))) (mTest (mBin geI (mCB (un1 absD) (aCons (mVar 3) aNil)) (mBin powI (mC (.int 10)) (mC (.int 18)))))) (mSeq (mAsg (mBin addI (mBin mulI (mC (.int 2)) (mCB (un1 absD) (aCons (mVar 3) aNil))) (mCB (un1 intD) (aCons (mBin ltI (mVar 3) (mC (.int 0))) aNil))) (gN 6))
   (mSeq (mSetIx (mBin divW (mVar 6) (mVar 1)) (mVar 0) (mC (.int 2)))
   (mRet (mBin modI (mCB (un1 intD) (aCons (mVar 6) aNil)) (mVar 1))))) mSkip)
  (mSeq (mAsg (mBin modI (mBin powI (mCB (un1 intD) (aCons (mBin addI (mBin addI (mBin modI (mCB (un1 intD) (aCons (mVar 3) aNil)) (mC (.int 2147483549))) (mBin mulI (mC (.int 51341)) (mVar 2))) (mC (.int 22))) aNil)) (mC (.int 5))) (mC (.int 2147483579))) (gN 4))
  (mSeq (mAsg (mBin modI (mBin powI (mCB (un1 intD) (aCons (mBin addI (mBin addI (mBin mulI (mVar 4) (mBin addI (mBin mulI (mC (.int 2)) (mVar 2)) (mC (.int 33)))) (mBin mulI (mBin mulI (mC (.int 70001)) (mVar 2)) (mVar 2))) (mC (.int 13))) aNil)) (mC (.int 3))) (mC (.int 2147483629))) (gN 4))
  (mRet (mBin modI (mCB (un1 intD) (aCons (mBin divW (mVar 4) (mC (.int 16))) aNil)) (mVar 1)))))))))))
def g__law_draw_b (CA : Ly) : MF := body 7 (m__law_draw_b CA)
def r__law_draw_b (CA : Ly) : MF := ar 2 (g__law_draw_b CA)
theorem sc__law_draw_b : FnScope ["pen", "many", "at", "cell", "mixed", "digit", "large"] ["pen", "many"] (defScope s__law_draw_b) := C8.fnScope_by (by decide +kernel)
theorem F__law_draw_b (h : Ht K mg base CA) : FnR P w K mg base (L2.CX P w) 1 (He.fAd K ("_law_draw_b", none)) (spR K CA (r__law_draw_b CA)) := by
  obtain ⟨fd, FD⟩ := h.fn 29
  exact fn_all (sf_of FD sc__law_draw_b fun cdv A outer s H E hr fr =>
  (sb_cons (ss_if (st_cmp dop_gtI (se_ix (se_var (i := 0)) se_int) se_int (by rfl)) (sb_cons (ss_set (i := 5) (se_bin dop_modI (se_callTy dc_int (by rfl) (h.b 2) (by rfl) (sa_cons (se_ix (se_var (i := 0)) se_int) sa_nil)) (se_var (i := 1))) sc__law_draw_b.nd)
   (sb_cons (ss_setIx (se_bin dop_divW (se_ix (se_var (i := 0)) se_int) (se_var (i := 1))) (se_var (i := 0)) se_int)
   (sb_one (ss_ret (se_var (i := 5)))))) sb_nil)
  (sb_cons (ss_set (i := 2) (se_ix (se_var (i := 0)) se_int) sc__law_draw_b.nd)
  (sb_cons (ss_setIx (se_bin dop_addI (se_var (i := 2)) se_int) (se_var (i := 0)) se_int)
  (sb_cons (ss_set (i := 3) (se_bin dop_addI (se_bin dop_mulI se_int (se_var (i := 2))) se_int) sc__law_draw_b.nd)
  (sb_cons (ss_if (st_cmp (dop_neD hr.u64) (se_ix (se_var (i := 0)) se_int) (se_lst sa_nil) (by rfl)) (sb_one (ss_set (i := 3) (se_ix (se_ix (se_var (i := 0)) se_int) (se_bin dop_modI (se_callTy dc_int (by rfl) (h.b 2) (by rfl) (sa_cons (se_var (i := 2)) sa_nil)) (se_callB dc_len (by rfl) (h.b 0) (by rfl) (sa_cons (se_ix (se_var (i := 0)) se_int) sa_nil)))) sc__law_draw_b.nd)) sb_nil)
  (sb_cons (ss_if (SW.st' (sw_and (st_cmp dop_ltI (se_var (i := 2)) (se_callB dc_len (by rfl) (h.b 0) (by rfl) (sa_cons (se_ix (se_var (i := 0)) se_int) sa_nil)) (by rfl)) (sw_and1 (st_cmp dop_geI (se_callB dc_abs (by rfl) (h.b 1) (by rfl) (sa_cons (se_var (i := 3)) sa_nil)) (se_bin dop_powI se_int se_int) (by rfl))))) (sb_cons (ss_set (i := 6) (se_bin dop_addI (se_bin dop_mulI se_int (se_callB dc_abs (by rfl) (h.b 1) (by rfl) (sa_cons (se_var (i := 3)) sa_nil))) (se_callTy dc_int (by rfl) (h.b 2) (by rfl) (sa_cons (se_cmp dop_ltI (se_var (i := 3)) se_int (by rfl)) sa_nil))) sc__law_draw_b.nd)
   (sb_cons (ss_setIx (se_bin dop_divW (se_var (i := 6)) (se_var (i := 1))) (se_var (i := 0)) se_int)
   (sb_one (ss_ret (se_bin dop_modI (se_callTy dc_int (by rfl) (h.b 2) (by rfl) (sa_cons (se_var (i := 6)) sa_nil)) (se_var (i := 1))))))) sb_nil)
  (sb_cons (ss_set (i := 4) (se_bin dop_modI (se_bin dop_powI (se_callTy dc_int (by rfl) (h.b 2) (by rfl) (sa_cons (se_bin dop_addI (se_bin dop_addI (se_bin dop_modI (se_callTy dc_int (by rfl) (h.b 2) (by rfl) (sa_cons (se_var (i := 3)) sa_nil)) se_int) (se_bin dop_mulI se_int (se_var (i := 2)))) se_int) sa_nil)) se_int) se_int) sc__law_draw_b.nd)
  (sb_cons (ss_set (i := 4) (se_bin dop_modI (se_bin dop_powI (se_callTy dc_int (by rfl) (h.b 2) (by rfl) (sa_cons (se_bin dop_addI (se_bin dop_addI (se_bin dop_mulI (se_var (i := 4)) (se_bin dop_addI (se_bin dop_mulI se_int (se_var (i := 2))) se_int)) (se_bin dop_mulI (se_bin dop_mulI se_int (se_var (i := 2))) (se_var (i := 2)))) se_int) sa_nil)) se_int) se_int) sc__law_draw_b.nd)
  (sb_one (ss_ret (se_bin dop_modI (se_callTy dc_int (by rfl) (h.b 2) (by rfl) (sa_cons (se_bin dop_divW (se_var (i := 4)) se_int) sa_nil)) (se_var (i := 1)))))))))))))) (FD.bindsN fun _ _ _ _ _ _ us hl => match us, hl with | [_, _], _ => rfl)
abbrev s__law_end_b : Stmt := top 26
def m__law_end_b (CA : Ly) : MS :=
  (mSeq (mAsg (mF (r__law_draw_b CA) (aCons (mVar 0) (aCons (mC (.int 6)) aNil))) (gN 1))
  (mSeq (mIfS (mTest (mBin ltI (mVar 1) (mC (.int 3)))) (mRet (mBin subI (mF (r__law_draw_b CA) (aCons (mVar 0) (aCons (mC (.int 15)) aNil))) (mC (.int 7)))) mSkip)
  (mSeq (mIfS (mTest (mBin eqD (mVar 1) (mC (.int 3)))) (mRet (mBin subI (mF (r__law_draw_b CA) (aCons (mVar 0) (aCons (mC (.int 201)) aNil))) (mC (.int 100)))) mSkip)
  (mSeq (mIfS (mTest (mBin eqD (mVar 1) (mC (.int 4)))) (mRet (mBin mulI (mBin subI (mBin subI (mBin powI (mC (.int 10)) (mC (.int 12))) (mC (.int 40))) (mF (r__law_draw_b CA) (aCons (mVar 0) (aCons (mC (.int 4)) aNil)))) (mBin subI (mC (.int 1)) (mBin mulI (mC (.int 2)) (mF (r__law_draw_b CA) (aCons (mVar 0) (aCons (mC (.int 2)) aNil))))))) mSkip)
  (mRet (mBin mulI (mF (r__law_draw_b CA) (aCons (mVar 0) (aCons (mBin powI (mC (.int 10)) (mC (.int 11))) aNil))) (mBin subI (mC (.int 1)) (mBin mulI (mC (.int 2)) (mF (r__law_draw_b CA) (aCons (mVar 0) (aCons (mC (.int 2)) aNil)))))))))))
def g__law_end_b (CA : Ly) : MF := body 2 (m__law_end_b CA)
def r__law_end_b (CA : Ly) : MF := ar 1 (g__law_end_b CA)
theorem sc__law_end_b : FnScope ["pen", "pick"] ["pen"] (defScope s__law_end_b) := C8.fnScope_by (by decide +kernel)
theorem F__law_end_b (h : Ht K mg base CA) : FnR P w K mg base (L2.CX P w) 2 (He.fAd K ("_law_end_b", none)) (spR K CA (r__law_end_b CA)) := by
  obtain ⟨fd, FD⟩ := h.fn 30
  exact fn_all (sf_of FD sc__law_end_b fun cdv A outer s H E hr fr =>
  (sb_cons (ss_set (i := 1) (se_callG (df_fn fr.tk (F__law_draw_b (P := P) (w := w) (base := base) h) (hr.mono (j := 1) (by decide)) (h.kp 22)) (by rfl) (h.g 22) (sa_cons (se_var (i := 0)) (sa_cons se_int sa_nil))) sc__law_end_b.nd)
  (sb_cons (ss_if (st_cmp dop_ltI (se_var (i := 1)) se_int (by rfl)) (sb_one (ss_ret (se_bin dop_subI (se_callG (df_fn fr.tk (F__law_draw_b (P := P) (w := w) (base := base) h) (hr.mono (j := 1) (by decide)) (h.kp 22)) (by rfl) (h.g 22) (sa_cons (se_var (i := 0)) (sa_cons se_int sa_nil))) se_int))) sb_nil)
  (sb_cons (ss_if (st_cmp (dop_eqD hr.u64) (se_var (i := 1)) se_int (by rfl)) (sb_one (ss_ret (se_bin dop_subI (se_callG (df_fn fr.tk (F__law_draw_b (P := P) (w := w) (base := base) h) (hr.mono (j := 1) (by decide)) (h.kp 22)) (by rfl) (h.g 22) (sa_cons (se_var (i := 0)) (sa_cons se_int sa_nil))) se_int))) sb_nil)
  (sb_cons (ss_if (st_cmp (dop_eqD hr.u64) (se_var (i := 1)) se_int (by rfl)) (sb_one (ss_ret (se_bin dop_mulI (se_bin dop_subI (se_bin dop_subI (se_bin dop_powI se_int se_int) se_int) (se_callG (df_fn fr.tk (F__law_draw_b (P := P) (w := w) (base := base) h) (hr.mono (j := 1) (by decide)) (h.kp 22)) (by rfl) (h.g 22) (sa_cons (se_var (i := 0)) (sa_cons se_int sa_nil)))) (se_bin dop_subI se_int (se_bin dop_mulI se_int (se_callG (df_fn fr.tk (F__law_draw_b (P := P) (w := w) (base := base) h) (hr.mono (j := 1) (by decide)) (h.kp 22)) (by rfl) (h.g 22) (sa_cons (se_var (i := 0)) (sa_cons se_int sa_nil)))))))) sb_nil)
  (sb_one (ss_ret (se_bin dop_mulI (se_callG (df_fn fr.tk (F__law_draw_b (P := P) (w := w) (base := base) h) (hr.mono (j := 1) (by decide)) (h.kp 22)) (by rfl) (h.g 22) (sa_cons (se_var (i := 0)) (sa_cons (se_bin dop_powI se_int se_int) sa_nil))) (se_bin dop_subI se_int (se_bin dop_mulI se_int (se_callG (df_fn fr.tk (F__law_draw_b (P := P) (w := w) (base := base) h) (hr.mono (j := 1) (by decide)) (h.kp 22)) (by rfl) (h.g 22) (sa_cons (se_var (i := 0)) (sa_cons se_int sa_nil))))))))))))) (FD.bindsN fun _ _ _ _ _ _ us hl => match us, hl with | [_], _ => rfl)
abbrev s__law_stretches_b : Stmt := top 27
def m__law_stretches_b (CA : Ly) : MS :=
  (mSeq (mBox (mLst aNil) 2)
  (mSeq (mFor (iRng1M (mF (r__law_draw_b CA) (aCons (mVar 0) (aCons (mBin addI (mVar 1) (mC (.int 1))) aNil)))) (gN 3) (mSeq (mAsg (mF (r__law_end_b CA) (aCons (mVar 0) aNil)) (gN 4))
   (mSeq (mAsg (mF (r__law_draw_b CA) (aCons (mVar 0) (aCons (mC (.int 8)) aNil))) (gN 5))
   (mSeq (mIfS (mAnd (mTest (mBin neD (mVar 2) (mLst aNil))) (mTest (mBin ltI (mVar 5) (mC (.int 4))))) (mSeq (mAsg (mBin ixD (mBin ixD (mVar 2) (mUn negI (mC (.int 1)))) (mBin divW (mVar 5) (mC (.int 2)))) (gN 4))
    (mAsg (mBin addI (mBin addI (mIf (mTest (mUn isN (mVar 4))) (mC (.int 0)) (mVar 4)) (mC (.int 1))) (mBin modI (mCB (un1 intD) (aCons (mVar 5) aNil)) (mC (.int 2)))) (gN 4))) mSkip)
   (mSeq (mAsg (mBin addI (mVar 4) (mBin ixD (mLst (aCons (mC (.int 0)) (aCons (mC (.int 0)) (aCons (mC (.int 1)) (aCons (mC (.int 2)) (aCons (mF (r__law_draw_b CA) (aCons (mVar 0) (aCons (mC (.int 10)) aNil))) (aCons (mF (r__law_draw_b CA) (aCons (mVar 0) (aCons (mC (.int 1000)) aNil))) aNil))))))) (mF (r__law_draw_b CA) (aCons (mVar 0) (aCons (mC (.int 6)) aNil))))) (gN 6))
   (mSeq (mAsg (mCB (un2 min2) (aCons (mVar 6) (aCons (mBin subI (mBin powI (mC (.int 10)) (mC (.int 12))) (mC (.int 40))) aNil))) (gN 6))
   (mSeq (mAsg (mTup (aCons (mCB (un2 min2) (aCons (mVar 4) (aCons (mVar 6) aNil))) (aCons (mVar 6) aNil))) (gN 7))
   (mSeq (mAsg (mF (r__law_draw_b CA) (aCons (mVar 0) (aCons (mC (.int 9)) aNil))) (gN 5))
   (mSeq (mIfS (mTest (mBin eqD (mVar 5) (mC (.int 0)))) (mAsg (mTup (aCons (mC .non) (aCons (mVar 6) aNil))) (gN 7)) mSkip)
   (mSeq (mIfS (mTest (mBin eqD (mVar 5) (mC (.int 1)))) (mAsg (mTup (aCons (mCB (un2 min2) (aCons (mVar 4) (aCons (mVar 6) aNil))) (aCons (mC .non) aNil))) (gN 7)) mSkip)
   (mExpr (mBm appD (mVar 2) (aCons (mVar 7) aNil)))))))))))))
  (mRet (mVar 2))))
def g__law_stretches_b (CA : Ly) : MF := body 8 (m__law_stretches_b CA)
def r__law_stretches_b (CA : Ly) : MF := ar 2 (g__law_stretches_b CA)
theorem sc__law_stretches_b : FnScope ["pen", "most", "found", "turn", "low", "pick", "high", "ends"] ["pen", "most"] (defScope s__law_stretches_b) := C8.fnScope_by (by decide +kernel)
theorem F__law_stretches_b (h : Ht K mg base CA) : FnR P w K mg base (L2.CX P w) 3 (He.fAd K ("_law_stretches_b", none)) (spR K CA (r__law_stretches_b CA)) := by
  obtain ⟨fd, FD⟩ := h.fn 31
  exact fn_all (sf_of FD sc__law_stretches_b fun cdv A outer s H E hr fr =>
  (sb_cons (ss_box (i := 2) (se_lst sa_nil) sc__law_stretches_b.nd)
  (sb_cons (ss_for fr (si_rng1 (by rfl) (h.b 10) (se_callG (df_fn fr.tk (F__law_draw_b (P := P) (w := w) (base := base) h) (hr.mono (j := 1) (by decide)) (h.kp 22)) (by rfl) (h.g 22) (sa_cons (se_var (i := 0)) (sa_cons (se_bin dop_addI (se_var (i := 1)) se_int) sa_nil)))) (sg_name (i := 3) sc__law_stretches_b.nd) (sb_cons (ss_set (i := 4) (se_callG (df_fn fr.tk (F__law_end_b (P := P) (w := w) (base := base) h) (hr.mono (j := 2) (by decide)) (h.kp 23)) (by rfl) (h.g 23) (sa_cons (se_var (i := 0)) sa_nil)) sc__law_stretches_b.nd)
   (sb_cons (ss_set (i := 5) (se_callG (df_fn fr.tk (F__law_draw_b (P := P) (w := w) (base := base) h) (hr.mono (j := 1) (by decide)) (h.kp 22)) (by rfl) (h.g 22) (sa_cons (se_var (i := 0)) (sa_cons se_int sa_nil))) sc__law_stretches_b.nd)
   (sb_cons (ss_if (SW.st' (sw_and (st_cmp (dop_neD hr.u64) (se_var (i := 2)) (se_lst sa_nil) (by rfl)) (sw_and1 (st_cmp dop_ltI (se_var (i := 5)) se_int (by rfl))))) (sb_cons (ss_set (i := 4) (se_ix (se_ix (se_var (i := 2)) (se_un dun_neg se_int)) (se_bin dop_divW (se_var (i := 5)) se_int)) sc__law_stretches_b.nd)
    (sb_one (ss_set (i := 4) (se_bin dop_addI (se_bin dop_addI (se_if (st_isN (se_var (i := 4))) se_int (se_var (i := 4))) se_int) (se_bin dop_modI (se_callTy dc_int (by rfl) (h.b 2) (by rfl) (sa_cons (se_var (i := 5)) sa_nil)) se_int)) sc__law_stretches_b.nd))) sb_nil)
   (sb_cons (ss_set (i := 6) (se_bin dop_addI (se_var (i := 4)) (se_ix (se_lst (sa_cons se_int (sa_cons se_int (sa_cons se_int (sa_cons se_int (sa_cons (se_callG (df_fn fr.tk (F__law_draw_b (P := P) (w := w) (base := base) h) (hr.mono (j := 1) (by decide)) (h.kp 22)) (by rfl) (h.g 22) (sa_cons (se_var (i := 0)) (sa_cons se_int sa_nil))) (sa_cons (se_callG (df_fn fr.tk (F__law_draw_b (P := P) (w := w) (base := base) h) (hr.mono (j := 1) (by decide)) (h.kp 22)) (by rfl) (h.g 22) (sa_cons (se_var (i := 0)) (sa_cons se_int sa_nil))) sa_nil))))))) (se_callG (df_fn fr.tk (F__law_draw_b (P := P) (w := w) (base := base) h) (hr.mono (j := 1) (by decide)) (h.kp 22)) (by rfl) (h.g 22) (sa_cons (se_var (i := 0)) (sa_cons se_int sa_nil))))) sc__law_stretches_b.nd)
   (sb_cons (ss_set (i := 6) (se_callB (dc_min2 fr.calm) (by rfl) (h.b 8) (by rfl) (sa_cons (se_var (i := 6)) (sa_cons (se_bin dop_subI (se_bin dop_powI se_int se_int) se_int) sa_nil))) sc__law_stretches_b.nd)
   (sb_cons (ss_set (i := 7) (se_tup (sa_cons (se_callB (dc_min2 fr.calm) (by rfl) (h.b 8) (by rfl) (sa_cons (se_var (i := 4)) (sa_cons (se_var (i := 6)) sa_nil))) (sa_cons (se_var (i := 6)) sa_nil))) sc__law_stretches_b.nd)
   (sb_cons (ss_set (i := 5) (se_callG (df_fn fr.tk (F__law_draw_b (P := P) (w := w) (base := base) h) (hr.mono (j := 1) (by decide)) (h.kp 22)) (by rfl) (h.g 22) (sa_cons (se_var (i := 0)) (sa_cons se_int sa_nil))) sc__law_stretches_b.nd)
   (sb_cons (ss_if (st_cmp (dop_eqD hr.u64) (se_var (i := 5)) se_int (by rfl)) (sb_one (ss_set (i := 7) (se_tup (sa_cons se_non (sa_cons (se_var (i := 6)) sa_nil))) sc__law_stretches_b.nd)) sb_nil)
   (sb_cons (ss_if (st_cmp (dop_eqD hr.u64) (se_var (i := 5)) se_int (by rfl)) (sb_one (ss_set (i := 7) (se_tup (sa_cons (se_callB (dc_min2 fr.calm) (by rfl) (h.b 8) (by rfl) (sa_cons (se_var (i := 4)) (sa_cons (se_var (i := 6)) sa_nil))) (sa_cons se_non sa_nil))) sc__law_stretches_b.nd)) sb_nil)
   (sb_one (ss_expr (se_bm F.plainAttrs_list F.slot_list_append (by rfl) dml_append (se_var (i := 2)) (sa_cons (se_var (i := 7)) sa_nil))))))))))))))
  (sb_one (ss_ret (se_var (i := 2))))))) (FD.bindsN fun _ _ _ _ _ _ us hl => match us, hl with | [_, _], _ => rfl)
abbrev s__law_made_b : Stmt := top 28
def m__law_made_b (CA : Ly) : MS :=
  (mSeq (mBox (mCB (un1 listD) (aCons (mVar 1) aNil)) 2)
  (mSeq (mAsg (mCM (CA 0) (r_Ranges_empty CA) (mC (.adr (CA 0))) aNil) (gN 3))
  (mSeq (mWhile (mTest (mBin neD (mVar 2) (mLst aNil))) (mSeq (mAsg (mBm popD (mVar 2) (aCons (mF (r__law_draw_b CA) (aCons (mVar 0) (aCons (mCB (un1 lenD) (aCons (mVar 2) aNil)) aNil))) aNil)) (gTup [(gN 4), (gN 5)]))
   (mSeq (mAsg (mCM (CA 0) (r_Ranges_between CA) (mC (.adr (CA 0))) (aCons (mVar 4) (aCons (mVar 5) aNil))) (gN 6))
   (mSeq (mIfS (mAnd (mTest (mUn notN (mVar 4))) (mAnd (mTest (mBin eqD (mVar 4) (mVar 5))) (mTest (mBin eqD (mF (r__law_draw_b CA) (aCons (mVar 0) (aCons (mC (.int 2)) aNil))) (mC (.int 0)))))) (mAsg (mCM (CA 0) (r_Ranges_of CA) (mC (.adr (CA 0))) (aCons (mVar 4) (aCons (mVar 4) aNil))) (gN 6)) mSkip)
   (mAsg (mBin ixD (mLst (aCons (mBin (fun x y bx => noX (binC 0 (r_Ranges___or__ CA) x y bx)) (mVar 3) (mVar 6)) (aCons (mBin (fun x y bx => noX (binC 0 (r_Ranges___or__ CA) x y bx)) (mVar 6) (mVar 3)) aNil))) (mF (r__law_draw_b CA) (aCons (mVar 0) (aCons (mC (.int 2)) aNil)))) (gN 3))))) 99)
  (mRet (mVar 3)))))
def g__law_made_b (CA : Ly) : MF := body 7 (m__law_made_b CA)
def r__law_made_b (CA : Ly) : MF := ar 2 (g__law_made_b CA)
theorem sc__law_made_b : FnScope ["pen", "stretches", "left", "found", "low", "high", "one"] ["pen", "stretches"] (defScope s__law_made_b) := C8.fnScope_by (by decide +kernel)
theorem F__law_made_b (h : Ht K mg base CA) : FnR P w K mg base (L2.CX P w) 6 (He.fAd K ("_law_made_b", none)) (spR K CA (r__law_made_b CA)) := by
  obtain ⟨fd, FD⟩ := h.fn 32
  exact fn_all (sf_of FD sc__law_made_b fun cdv A outer s H E hr fr =>
  (sb_cons (ss_box (i := 2) (se_callTy dc_list (by rfl) (h.b 4) (by rfl) (sa_cons (se_var (i := 1)) sa_nil)) sc__law_made_b.nd)
  (sb_cons (ss_set (i := 3) (se_cm0 fr.tk h.cr (h.cm 3) (F_Ranges_empty (P := P) (w := w) (base := base) h) (hr.mono (j := 5) (by decide)) (se_glob (by rfl) h.gC)) sc__law_made_b.nd)
  (sb_cons (ss_while 99 fr (st_cmp (dop_neD hr.u64) (se_var (i := 2)) (se_lst sa_nil) (by rfl)) (sb_cons (ss_asg (se_bm F.plainAttrs_list F.slot_list_pop (by rfl) dml_pop (se_var (i := 2)) (sa_cons (se_callG (df_fn fr.tk (F__law_draw_b (P := P) (w := w) (base := base) h) (hr.mono (j := 1) (by decide)) (h.kp 22)) (by rfl) (h.g 22) (sa_cons (se_var (i := 0)) (sa_cons (se_callB dc_len (by rfl) (h.b 0) (by rfl) (sa_cons (se_var (i := 2)) sa_nil)) sa_nil))) sa_nil)) (sg_tup (gs := [(gN 4), (gN 5)]) fr.calm (sgs_cons (sg_name (i := 4) sc__law_made_b.nd) (sgs_cons (sg_name (i := 5) sc__law_made_b.nd) sgs_nil))))
   (sb_cons (ss_set (i := 6) (se_cm fr.tk h.cr (h.cm 1) (F_Ranges_between (P := P) (w := w) (base := base) h) (hr.mono (j := 5) (by decide)) (se_glob (by rfl) h.gC) (sa_cons (se_var (i := 4)) (sa_cons (se_var (i := 5)) sa_nil))) sc__law_made_b.nd)
   (sb_cons (ss_if (SW.st' (sw_and (st_notN (se_var (i := 4))) (sw_and (st_cmp (dop_eqD hr.u64) (se_var (i := 4)) (se_var (i := 5)) (by rfl)) (sw_and1 (st_cmp (dop_eqD hr.u64) (se_callG (df_fn fr.tk (F__law_draw_b (P := P) (w := w) (base := base) h) (hr.mono (j := 1) (by decide)) (h.kp 22)) (by rfl) (h.g 22) (sa_cons (se_var (i := 0)) (sa_cons se_int sa_nil))) se_int (by rfl)))))) (sb_one (ss_set (i := 6) (se_cm fr.tk h.cr (h.cm 0) (F_Ranges_of (P := P) (w := w) (base := base) h) (hr.mono (j := 5) (by decide)) (se_glob (by rfl) h.gC) (sa_cons (se_var (i := 4)) (sa_cons (se_var (i := 4)) sa_nil))) sc__law_made_b.nd)) sb_nil)
   (sb_one (ss_set (i := 3) (se_ix (se_lst (sa_cons (se_bin (dop_binC (c := 0) h.sf (h.fd 0) (h.ff 0) (F_Ranges___or__ (P := P) (w := w) (base := base) h) (hr.mono (j := 5) (by decide))) (se_var (i := 3)) (se_var (i := 6))) (sa_cons (se_bin (dop_binC (c := 0) h.sf (h.fd 0) (h.ff 0) (F_Ranges___or__ (P := P) (w := w) (base := base) h) (hr.mono (j := 5) (by decide))) (se_var (i := 6)) (se_var (i := 3))) sa_nil))) (se_callG (df_fn fr.tk (F__law_draw_b (P := P) (w := w) (base := base) h) (hr.mono (j := 1) (by decide)) (h.kp 22)) (by rfl) (h.g 22) (sa_cons (se_var (i := 0)) (sa_cons se_int sa_nil)))) sc__law_made_b.nd))))))
  (sb_one (ss_ret (se_var (i := 3)))))))) (FD.bindsN fun _ _ _ _ _ _ us hl => match us, hl with | [_, _], _ => rfl)
abbrev s__law_near : Stmt := top 29
def m__law_near (CA : Ly) : MS :=
  (mSeq (mBox (mF (r__law_stretches_b CA) (aCons (mVar 0) (aCons (mC (.int 4)) aNil))) 2)
  (mSeq (mFor (iSeq (mVar 1)) (gTup [(gN 3), (gN 4)]) (mSeq (mAsg (mF (r__law_draw_b CA) (aCons (mVar 0) (aCons (mC (.int 6)) aNil))) (gN 5))
   (mSeq (mIfS (mTest (mBin eqD (mVar 5) (mC (.int 0)))) (mExpr (mBm appD (mVar 2) (aCons (mTup (aCons (mVar 3) (aCons (mVar 4) aNil))) aNil))) mSkip)
   (mSeq (mIfS (mAnd (mTest (mBin eqD (mVar 5) (mC (.int 1)))) (mAnd (mTest (mUn notN (mVar 4))) (mTest (mBin ltI (mVar 4) (mBin powI (mC (.int 10)) (mC (.int 11))))))) (mExpr (mBm appD (mVar 2) (aCons (mTup (aCons (mBin subI (mBin addI (mVar 4) (mC (.int 1))) (mF (r__law_draw_b CA) (aCons (mVar 0) (aCons (mC (.int 2)) aNil)))) (aCons (mBin addI (mBin addI (mVar 4) (mC (.int 1))) (mF (r__law_draw_b CA) (aCons (mVar 0) (aCons (mC (.int 3)) aNil)))) aNil))) aNil))) mSkip)
   (mSeq (mIfS (mAnd (mTest (mBin eqD (mVar 5) (mC (.int 2)))) (mAnd (mTest (mUn notN (mVar 3))) (mTest (mBin gtI (mVar 3) (mBin subI (mC (.int 0)) (mBin powI (mC (.int 10)) (mC (.int 11)))))))) (mExpr (mBm appD (mVar 2) (aCons (mTup (aCons (mC .non) (aCons (mBin subI (mVar 3) (mF (r__law_draw_b CA) (aCons (mVar 0) (aCons (mC (.int 2)) aNil)))) aNil))) aNil))) mSkip)
   (mIfS (mAnd (mTest (mBin eqD (mVar 5) (mC (.int 3)))) (mAnd (mTest (mUn notN (mVar 3))) (mTest (mUn notN (mVar 4))))) (mExpr (mBm appD (mVar 2) (aCons (mTup (aCons (mBin addI (mVar 3) (mBin divW (mBin subI (mVar 4) (mVar 3)) (mC (.int 2)))) (aCons (mVar 4) aNil))) aNil))) mSkip))))))
  (mRet (mVar 2))))
def g__law_near (CA : Ly) : MF := body 6 (m__law_near CA)
def r__law_near (CA : Ly) : MF := ar 2 (g__law_near CA)
theorem sc__law_near : FnScope ["pen", "stretches", "found", "low", "high", "pick"] ["pen", "stretches"] (defScope s__law_near) := C8.fnScope_by (by decide +kernel)
theorem F__law_near (h : Ht K mg base CA) : FnR P w K mg base (L2.CX P w) 4 (He.fAd K ("_law_near", none)) (spR K CA (r__law_near CA)) := by
  obtain ⟨fd, FD⟩ := h.fn 33
  exact fn_all (sf_of FD sc__law_near fun cdv A outer s H E hr fr =>
  (sb_cons (ss_box (i := 2) (se_callG (df_fn fr.tk (F__law_stretches_b (P := P) (w := w) (base := base) h) (hr.mono (j := 3) (by decide)) (h.kp 24)) (by rfl) (h.g 24) (sa_cons (se_var (i := 0)) (sa_cons se_int sa_nil))) sc__law_near.nd)
  (sb_cons (ss_for fr (si_seq (se_var (i := 1))) (sg_tup (gs := [(gN 3), (gN 4)]) fr.calm (sgs_cons (sg_name (i := 3) sc__law_near.nd) (sgs_cons (sg_name (i := 4) sc__law_near.nd) sgs_nil))) (sb_cons (ss_set (i := 5) (se_callG (df_fn fr.tk (F__law_draw_b (P := P) (w := w) (base := base) h) (hr.mono (j := 1) (by decide)) (h.kp 22)) (by rfl) (h.g 22) (sa_cons (se_var (i := 0)) (sa_cons se_int sa_nil))) sc__law_near.nd)
   (sb_cons (ss_if (st_cmp (dop_eqD hr.u64) (se_var (i := 5)) se_int (by rfl)) (sb_one (ss_expr (se_bm F.plainAttrs_list F.slot_list_append (by rfl) dml_append (se_var (i := 2)) (sa_cons (se_tup (sa_cons (se_var (i := 3)) (sa_cons (se_var (i := 4)) sa_nil))) sa_nil)))) sb_nil)
   (sb_cons (ss_if (SW.st' (sw_and (st_cmp (dop_eqD hr.u64) (se_var (i := 5)) se_int (by rfl)) (sw_and (st_notN (se_var (i := 4))) (sw_and1 (st_cmp dop_ltI (se_var (i := 4)) (se_bin dop_powI se_int se_int) (by rfl)))))) (sb_one (ss_expr (se_bm F.plainAttrs_list F.slot_list_append (by rfl) dml_append (se_var (i := 2)) (sa_cons (se_tup (sa_cons (se_bin dop_subI (se_bin dop_addI (se_var (i := 4)) se_int) (se_callG (df_fn fr.tk (F__law_draw_b (P := P) (w := w) (base := base) h) (hr.mono (j := 1) (by decide)) (h.kp 22)) (by rfl) (h.g 22) (sa_cons (se_var (i := 0)) (sa_cons se_int sa_nil)))) (sa_cons (se_bin dop_addI (se_bin dop_addI (se_var (i := 4)) se_int) (se_callG (df_fn fr.tk (F__law_draw_b (P := P) (w := w) (base := base) h) (hr.mono (j := 1) (by decide)) (h.kp 22)) (by rfl) (h.g 22) (sa_cons (se_var (i := 0)) (sa_cons se_int sa_nil)))) sa_nil))) sa_nil)))) sb_nil)
   (sb_cons (ss_if (SW.st' (sw_and (st_cmp (dop_eqD hr.u64) (se_var (i := 5)) se_int (by rfl)) (sw_and (st_notN (se_var (i := 3))) (sw_and1 (st_cmp dop_gtI (se_var (i := 3)) (se_bin dop_subI se_int (se_bin dop_powI se_int se_int)) (by rfl)))))) (sb_one (ss_expr (se_bm F.plainAttrs_list F.slot_list_append (by rfl) dml_append (se_var (i := 2)) (sa_cons (se_tup (sa_cons se_non (sa_cons (se_bin dop_subI (se_var (i := 3)) (se_callG (df_fn fr.tk (F__law_draw_b (P := P) (w := w) (base := base) h) (hr.mono (j := 1) (by decide)) (h.kp 22)) (by rfl) (h.g 22) (sa_cons (se_var (i := 0)) (sa_cons se_int sa_nil)))) sa_nil))) sa_nil)))) sb_nil)
   (sb_one (ss_if (SW.st' (sw_and (st_cmp (dop_eqD hr.u64) (se_var (i := 5)) se_int (by rfl)) (sw_and (st_notN (se_var (i := 3))) (sw_and1 (st_notN (se_var (i := 4))))))) (sb_one (ss_expr (se_bm F.plainAttrs_list F.slot_list_append (by rfl) dml_append (se_var (i := 2)) (sa_cons (se_tup (sa_cons (se_bin dop_addI (se_var (i := 3)) (se_bin dop_divW (se_bin dop_subI (se_var (i := 4)) (se_var (i := 3))) se_int)) (sa_cons (se_var (i := 4)) sa_nil))) sa_nil)))) sb_nil)))))))
  (sb_one (ss_ret (se_var (i := 2))))))) (FD.bindsN fun _ _ _ _ _ _ us hl => match us, hl with | [_, _], _ => rfl)
abbrev s__law_outcome_right : Stmt := top 30
def m__law_outcome_right (CA : Ly) : MS :=
  (mSeq (mIfS (mNot (mTest (mF (r__law_is_joined CA) (aCons (mUn (fldD "parts" [0]) (mVar 0)) aNil)))) (mRet (mC (.bl false))) mSkip)
  (mSeq (mFor (iSeq (mF (r__law_points CA) (aCons (mBin addL (mBin addL (mVar 1) (mVar 2)) (mCB (un1 listD) (aCons (mUn (fldD "parts" [0]) (mVar 0)) aNil))) aNil))) (gN 4) (mSeq (mPar2 5 6 (aCons (mF (r__law_has CA) (aCons (mVar 1) (aCons (mVar 4) aNil))) (aCons (mF (r__law_has CA) (aCons (mVar 2) (aCons (mVar 4) aNil))) aNil)))
   (mSeq (mAsg (mOrV (mVar 5) (mVar 6)) (gN 7))
   (mSeq (mIfS (mTest (mBin eqD (mVar 3) (mC (.str "common")))) (mAsg (mAndV (mVar 5) (mVar 6)) (gN 7)) mSkip)
   (mSeq (mIfS (mTest (mBin eqD (mVar 3) (mC (.str "less")))) (mAsg (mAndV (mVar 5) (mNotV (mVar 6))) (gN 7)) mSkip)
   (mIfS (mOr (mTest (mBin neD (mBin (fun x y bx => noX (inC 0 (r_Ranges___contains__ CA) posO x y bx)) (mVar 4) (mVar 0)) (mVar 7))) (mTest (mBin neD (mF (r__law_has CA) (aCons (mCB (un1 listD) (aCons (mUn (fldD "parts" [0]) (mVar 0)) aNil)) (aCons (mVar 4) aNil))) (mVar 7)))) (mRet (mC (.bl false))) mSkip))))))
  (mRet (mC (.bl true)))))
def g__law_outcome_right (CA : Ly) : MF := body 8 (m__law_outcome_right CA)
def r__law_outcome_right (CA : Ly) : MF := ar 4 (g__law_outcome_right CA)
theorem sc__law_outcome_right : FnScope ["found", "one", "other", "word", "number", "first", "second", "due"] ["found", "one", "other", "word"] (defScope s__law_outcome_right) := C8.fnScope_by (by decide +kernel)
theorem F__law_outcome_right (h : Ht K mg base CA) : FnR P w K mg base (L2.CX P w) 3 (He.fAd K ("_law_outcome_right", none)) (spR K CA (r__law_outcome_right CA)) := by
  obtain ⟨fd, FD⟩ := h.fn 34
  exact fn_all (sf_of FD sc__law_outcome_right fun cdv A outer s H E hr fr =>
  (sb_cons (ss_if (st_not (st_val (se_callG (df_fn fr.tk (F__law_is_joined (P := P) (w := w) (base := base) h) (hr.mono (j := 1) (by decide)) (h.kp 16)) (by rfl) (h.g 16) (sa_cons (se_fld (se_var (i := 0)) h.nas) sa_nil)))) (sb_one (ss_ret se_bl)) sb_nil)
  (sb_cons (ss_for fr (si_seq (se_callG (df_fn fr.tk (F__law_points (P := P) (w := w) (base := base) h) (hr.mono (j := 1) (by decide)) (h.kp 15)) (by rfl) (h.g 15) (sa_cons (se_bin dop_addL (se_bin dop_addL (se_var (i := 1)) (se_var (i := 2))) (se_callTy dc_list (by rfl) (h.b 4) (by rfl) (sa_cons (se_fld (se_var (i := 0)) h.nas) sa_nil))) sa_nil))) (sg_name (i := 4) sc__law_outcome_right.nd) (sb_cons (ss_par2 5 6 fr.calm sc__law_outcome_right.nd (sa_cons (se_callG (df_fn fr.tk (F__law_has (P := P) (w := w) (base := base) h) (hr.mono (j := 1) (by decide)) (h.kp 14)) (by rfl) (h.g 14) (sa_cons (se_var (i := 1)) (sa_cons (se_var (i := 4)) sa_nil))) (sa_cons (se_callG (df_fn fr.tk (F__law_has (P := P) (w := w) (base := base) h) (hr.mono (j := 1) (by decide)) (h.kp 14)) (by rfl) (h.g 14) (sa_cons (se_var (i := 2)) (sa_cons (se_var (i := 4)) sa_nil))) sa_nil)))
   (sb_cons (ss_set (i := 7) (se_or (se_var (i := 5)) (se_one (se_var (i := 6)))) sc__law_outcome_right.nd)
   (sb_cons (ss_if (st_cmp (dop_eqD hr.u64) (se_var (i := 3)) se_str (by rfl)) (sb_one (ss_set (i := 7) (se_and (se_var (i := 5)) (se_one (se_var (i := 6)))) sc__law_outcome_right.nd)) sb_nil)
   (sb_cons (ss_if (st_cmp (dop_eqD hr.u64) (se_var (i := 3)) se_str (by rfl)) (sb_one (ss_set (i := 7) (se_and (se_var (i := 5)) (se_one (se_not (se_var (i := 6))))) sc__law_outcome_right.nd)) sb_nil)
   (sb_one (ss_if (SW.st' (sw_or (st_cmp (dop_neD hr.u64) (se_cmp (dop_inC (c := 0) (h.fd 4) (h.ff 4) (F_Ranges___contains__ (P := P) (w := w) (base := base) h) (hr.mono (j := 2) (by decide))) (se_var (i := 4)) (se_var (i := 0)) (by rfl)) (se_var (i := 7)) (by rfl)) (sw_or1 (st_cmp (dop_neD hr.u64) (se_callG (df_fn fr.tk (F__law_has (P := P) (w := w) (base := base) h) (hr.mono (j := 1) (by decide)) (h.kp 14)) (by rfl) (h.g 14) (sa_cons (se_callTy dc_list (by rfl) (h.b 4) (by rfl) (sa_cons (se_fld (se_var (i := 0)) h.nas) sa_nil)) (sa_cons (se_var (i := 4)) sa_nil))) (se_var (i := 7)) (by rfl))))) (sb_one (ss_ret se_bl)) sb_nil)))))))
  (sb_one (ss_ret se_bl))))) (FD.bindsN fun _ _ _ _ _ _ us hl => match us, hl with | [_, _, _, _], _ => rfl)
abbrev s__law_is_less : Stmt := top 31
def m__law_is_less (CA : Ly) : MS :=
  (mSeq (mAsg (mComp (iSeq (mF (r__law_points CA) (aCons (mBin addL (mVar 0) (mVar 1)) aNil))) (([("number", 3)] : List (PySem.Str × Nat)).map (·.2)) (gN 3) (mTest (mF (r__law_has CA) (aCons (mVar 0) (aCons (mVar 3) aNil)))) (mVar 3)) (gN 2))
  (mRet (mBin eqD (mComp (iSeq (mVar 2)) (([("number", 3)] : List (PySem.Str × Nat)).map (·.2)) (gN 3) (mNot (mTest (mF (r__law_has CA) (aCons (mVar 1) (aCons (mVar 3) aNil))))) (mVar 3)) (mLst aNil))))
def g__law_is_less (CA : Ly) : MF := body 4 (m__law_is_less CA)
def r__law_is_less (CA : Ly) : MF := ar 2 (g__law_is_less CA)
theorem sc__law_is_less : FnScope ["one", "other", "mine", "number"] ["one", "other"] (defScope s__law_is_less) := C8.fnScope_by (by decide +kernel)
theorem F__law_is_less (h : Ht K mg base CA) : FnR P w K mg base (L2.CX P w) 2 (He.fAd K ("_law_is_less", none)) (spR K CA (r__law_is_less CA)) := by
  obtain ⟨fd, FD⟩ := h.fn 35
  exact fn_all (sf_of FD sc__law_is_less fun cdv A outer s H E hr fr =>
  (sb_cons (ss_setComp (i := 2) (own := [("number", 3)]) fr.calm sc__law_is_less.nd (by rfl) (by rfl) (by rfl) (si_seq (se_callG (df_fn fr.tk (F__law_points (P := P) (w := w) (base := base) h) (hr.mono (j := 1) (by decide)) (h.kp 15)) (by rfl) (h.g 15) (sa_cons (se_bin dop_addL (se_var (i := 0)) (se_var (i := 1))) sa_nil))) (blkOk_by (by kernel_rfl)) (by decide) (fun s H C cl fp => (sg_name (i := 3) sc__law_is_less.nd)) (fun s H C cl fp => (pts_if (st_val (se_callG (df_fn DL.takes0 (F__law_has (P := P) (w := w) (base := base) h) (hr.mono (j := 1) (by decide)) (h.kp 14)) (by rfl) (h.g 14) (sa_cons (se_var (i := 0)) (sa_cons (se_var (i := 3)) sa_nil)))))) (fun s H C cl fp => (se_var (i := 3))))
  (sb_one (ss_ret (se_cmp (dop_eqD hr.u64) (se_comp (own := [("number", 3)]) fr.calm sc__law_is_less.nd (si_seq (se_var (i := 2))) (blkOk_by (by kernel_rfl)) (by decide) (fun s H C cl fp => (sg_name (i := 3) sc__law_is_less.nd)) (fun s H C cl fp => (pts_if (st_not (st_val (se_callG (df_fn DL.takes0 (F__law_has (P := P) (w := w) (base := base) h) (hr.mono (j := 1) (by decide)) (h.kp 14)) (by rfl) (h.g 14) (sa_cons (se_var (i := 1)) (sa_cons (se_var (i := 3)) sa_nil))))))) (fun s H C cl fp => (se_var (i := 3)))) (se_lst sa_nil) (by rfl)))))) (FD.bindsN fun _ _ _ _ _ _ us hl => match us, hl with | [_, _], _ => rfl)
abbrev s__law_part_two : Stmt := top 32
def m__law_part_two (CA : Ly) : MS :=
  (mSeq (mBox (mF (r__law_pen CA) (aCons (mVar 0) aNil)) 1)
  (mSeq (mFor (iRng1M (mC (.int 2))) (gN 2) (mSeq (mAsg (mF (r__law_stretches_b CA) (aCons (mVar 1) (aCons (mC (.int 6)) aNil))) (gN 3))
   (mSeq (mAsg (mF (r__law_near CA) (aCons (mVar 1) (aCons (mVar 3) aNil))) (gN 4))
   (mSeq (mAsg (mF (r__law_near CA) (aCons (mVar 1) (aCons (mVar 4) aNil))) (gN 5))
   (mSeq (mPar3 6 7 8 (aCons (mF (r__law_made_b CA) (aCons (mVar 1) (aCons (mVar 3) aNil))) (aCons (mF (r__law_made_b CA) (aCons (mVar 1) (aCons (mVar 4) aNil))) (aCons (mF (r__law_made_b CA) (aCons (mVar 1) (aCons (mVar 5) aNil))) aNil))))
   (mSeq (mAsg (mTup (aCons (mUn (fldD "parts" [0]) (mVar 6)) (aCons (mUn (fldD "parts" [0]) (mVar 7)) (aCons (mUn (fldD "parts" [0]) (mVar 8)) aNil)))) (gN 9))
   (mSeq (mFor (iSeq (mLst (aCons (mTup (aCons (mVar 6) (aCons (mVar 3) aNil))) (aCons (mTup (aCons (mVar 7) (aCons (mVar 4) aNil))) aNil)))) (gTup [(gN 10), (gN 11)]) (mFor (iSeq (mLst (aCons (mTup (aCons (mVar 7) (aCons (mVar 4) aNil))) (aCons (mTup (aCons (mVar 8) (aCons (mVar 5) aNil))) (aCons (mTup (aCons (mVar 6) (aCons (mVar 3) aNil))) aNil))))) (gTup [(gN 12), (gN 13)]) (mSeq (mIfS (mNot (mTest (mF (r__law_outcome_right CA) (aCons (mBin (fun x y bx => noX (binC 0 (r_Ranges___or__ CA) x y bx)) (mVar 10) (mVar 12)) (aCons (mVar 11) (aCons (mVar 13) (aCons (mC (.str "either")) aNil))))))) (mRet (mC (.bl false))) mSkip)
     (mSeq (mIfS (mNot (mTest (mF (r__law_outcome_right CA) (aCons (mBin (fun x y bx => noX (binC 0 (r_Ranges___and__ CA) x y bx)) (mVar 10) (mVar 12)) (aCons (mVar 11) (aCons (mVar 13) (aCons (mC (.str "common")) aNil))))))) (mRet (mC (.bl false))) mSkip)
     (mSeq (mIfS (mNot (mTest (mF (r__law_outcome_right CA) (aCons (mBin (fun x y bx => noX (binC 0 (r_Ranges___sub__ CA) x y bx)) (mVar 10) (mVar 12)) (aCons (mVar 11) (aCons (mVar 13) (aCons (mC (.str "less")) aNil))))))) (mRet (mC (.bl false))) mSkip)
     (mIfS (mTest (mBin neD (mMt 0 "is_within" (r_Ranges_is_within CA) (mVar 10) (aCons (mVar 12) aNil)) (mF (r__law_is_less CA) (aCons (mVar 11) (aCons (mVar 13) aNil))))) (mRet (mC (.bl false))) mSkip))))))
   (mSeq (mIfS (mOr (mTest (mBin (fun x y bx => noX (neC [0] 0 (r_Ranges___eq__ CA) x y bx)) (mBin (fun x y bx => noX (binC 0 (r_Ranges___or__ CA) x y bx)) (mBin (fun x y bx => noX (binC 0 (r_Ranges___sub__ CA) x y bx)) (mVar 6) (mVar 7)) (mBin (fun x y bx => noX (binC 0 (r_Ranges___and__ CA) x y bx)) (mVar 6) (mVar 7))) (mVar 6))) (mOr (mTest (mBin (fun x y bx => noX (neC [0] 0 (r_Ranges___eq__ CA) x y bx)) (mBin (fun x y bx => noX (binC 0 (r_Ranges___sub__ CA) x y bx)) (mBin (fun x y bx => noX (binC 0 (r_Ranges___or__ CA) x y bx)) (mVar 6) (mVar 7)) (mVar 7)) (mBin (fun x y bx => noX (binC 0 (r_Ranges___sub__ CA) x y bx)) (mVar 6) (mVar 7)))) (mTest (mBin (fun x y bx => noX (neC [0] 0 (r_Ranges___eq__ CA) x y bx)) (mBin (fun x y bx => noX (binC 0 (r_Ranges___sub__ CA) x y bx)) (mBin (fun x y bx => noX (binC 0 (r_Ranges___sub__ CA) x y bx)) (mVar 6) (mVar 7)) (mVar 8)) (mBin (fun x y bx => noX (binC 0 (r_Ranges___sub__ CA) x y bx)) (mVar 6) (mBin (fun x y bx => noX (binC 0 (r_Ranges___or__ CA) x y bx)) (mVar 7) (mVar 8))))))) (mRet (mC (.bl false))) mSkip)
   (mSeq (mIfS (mOr (mTest (mBin (fun x y bx => noX (neC [0] 0 (r_Ranges___eq__ CA) x y bx)) (mBin (fun x y bx => noX (binC 0 (r_Ranges___and__ CA) x y bx)) (mBin (fun x y bx => noX (binC 0 (r_Ranges___or__ CA) x y bx)) (mVar 6) (mVar 7)) (mVar 8)) (mBin (fun x y bx => noX (binC 0 (r_Ranges___or__ CA) x y bx)) (mBin (fun x y bx => noX (binC 0 (r_Ranges___and__ CA) x y bx)) (mVar 6) (mVar 8)) (mBin (fun x y bx => noX (binC 0 (r_Ranges___and__ CA) x y bx)) (mVar 7) (mVar 8))))) (mTest (mBin (fun x y bx => noX (neC [0] 0 (r_Ranges___eq__ CA) x y bx)) (mBin (fun x y bx => noX (binC 0 (r_Ranges___sub__ CA) x y bx)) (mVar 6) (mBin (fun x y bx => noX (binC 0 (r_Ranges___and__ CA) x y bx)) (mVar 7) (mVar 8))) (mBin (fun x y bx => noX (binC 0 (r_Ranges___or__ CA) x y bx)) (mBin (fun x y bx => noX (binC 0 (r_Ranges___sub__ CA) x y bx)) (mVar 6) (mVar 7)) (mBin (fun x y bx => noX (binC 0 (r_Ranges___sub__ CA) x y bx)) (mVar 6) (mVar 8)))))) (mRet (mC (.bl false))) mSkip)
   (mSeq (mIfS (mOr (mNot (mTest (mMt 0 "is_within" (r_Ranges_is_within CA) (mBin (fun x y bx => noX (binC 0 (r_Ranges___and__ CA) x y bx)) (mVar 6) (mVar 7)) (aCons (mVar 6) aNil)))) (mOr (mNot (mTest (mMt 0 "is_within" (r_Ranges_is_within CA) (mVar 6) (aCons (mBin (fun x y bx => noX (binC 0 (r_Ranges___or__ CA) x y bx)) (mVar 6) (mVar 8)) aNil)))) (mTest (mBin (fun x y bx => noX (neC [0] 0 (r_Ranges___eq__ CA) x y bx)) (mBin (fun x y bx => noX (binC 0 (r_Ranges___and__ CA) x y bx)) (mBin (fun x y bx => noX (binC 0 (r_Ranges___sub__ CA) x y bx)) (mVar 6) (mVar 8)) (mVar 8)) (mCM (CA 0) (r_Ranges_empty CA) (mC (.adr (CA 0))) aNil))))) (mRet (mC (.bl false))) mSkip)
   (mSeq (mIfS (mOr (mTest (mBin (fun x y bx => noX (neC [0] 0 (r_Ranges___eq__ CA) x y bx)) (mBin (fun x y bx => noX (binC 0 (r_Ranges___sub__ CA) x y bx)) (mCM (CA 0) (r_Ranges_full CA) (mC (.adr (CA 0))) aNil) (mBin (fun x y bx => noX (binC 0 (r_Ranges___sub__ CA) x y bx)) (mCM (CA 0) (r_Ranges_full CA) (mC (.adr (CA 0))) aNil) (mVar 6))) (mVar 6))) (mTest (mBin neD (mCB (un1 fun x bx => noX (boolC 0 (r_Ranges___bool__ CA) x bx)) (aCons (mBin (fun x y bx => noX (binC 0 (r_Ranges___and__ CA) x y bx)) (mVar 6) (mVar 7)) aNil)) (mBin neD (mUn (fldD "parts" [0]) (mBin (fun x y bx => noX (binC 0 (r_Ranges___and__ CA) x y bx)) (mVar 6) (mVar 7))) (mTup aNil))))) (mRet (mC (.bl false))) mSkip)
   (mIfS (mTest (mBin neD (mTup (aCons (mUn (fldD "parts" [0]) (mVar 6)) (aCons (mUn (fldD "parts" [0]) (mVar 7)) (aCons (mUn (fldD "parts" [0]) (mVar 8)) aNil)))) (mVar 9))) (mRet (mC (.bl false))) mSkip))))))))))))
  (mRet (mC (.bl true)))))
def g__law_part_two (CA : Ly) : MF := body 14 (m__law_part_two CA)
def r__law_part_two (CA : Ly) : MF := ar 1 (g__law_part_two CA)
theorem sc__law_part_two : FnScope ["script", "pen", "turn", "one", "other", "third", "a", "b", "c", "kept", "left", "mine", "right", "yours"] ["script"] (defScope s__law_part_two) := C8.fnScope_by (by decide +kernel)
theorem F__law_part_two (h : Ht K mg base CA) : FnR P w K mg base (L2.CX P w) 7 (He.fAd K ("_law_part_two", none)) (spR K CA (r__law_part_two CA)) := by
  obtain ⟨fd, FD⟩ := h.fn 36
  exact fn_all (sf_of FD sc__law_part_two fun cdv A outer s H E hr fr =>
  (sb_cons (ss_box (i := 1) (se_callG (df_fn fr.tk (F__law_pen (P := P) (w := w) (base := base) h) (hr.mono (j := 1) (by decide)) (h.kp 10)) (by rfl) (h.g 10) (sa_cons (se_var (i := 0)) sa_nil)) sc__law_part_two.nd)
  (sb_cons (ss_for fr (si_rng1 (by rfl) (h.b 10) se_int) (sg_name (i := 2) sc__law_part_two.nd) (sb_cons (ss_set (i := 3) (se_callG (df_fn fr.tk (F__law_stretches_b (P := P) (w := w) (base := base) h) (hr.mono (j := 3) (by decide)) (h.kp 24)) (by rfl) (h.g 24) (sa_cons (se_var (i := 1)) (sa_cons se_int sa_nil))) sc__law_part_two.nd)
   (sb_cons (ss_set (i := 4) (se_callG (df_fn fr.tk (F__law_near (P := P) (w := w) (base := base) h) (hr.mono (j := 4) (by decide)) (h.kp 26)) (by rfl) (h.g 26) (sa_cons (se_var (i := 1)) (sa_cons (se_var (i := 3)) sa_nil))) sc__law_part_two.nd)
   (sb_cons (ss_set (i := 5) (se_callG (df_fn fr.tk (F__law_near (P := P) (w := w) (base := base) h) (hr.mono (j := 4) (by decide)) (h.kp 26)) (by rfl) (h.g 26) (sa_cons (se_var (i := 1)) (sa_cons (se_var (i := 4)) sa_nil))) sc__law_part_two.nd)
   (sb_cons (ss_par3 6 7 8 fr.calm sc__law_part_two.nd (sa_cons (se_callG (df_fn fr.tk (F__law_made_b (P := P) (w := w) (base := base) h) (hr.mono (j := 6) (by decide)) (h.kp 25)) (by rfl) (h.g 25) (sa_cons (se_var (i := 1)) (sa_cons (se_var (i := 3)) sa_nil))) (sa_cons (se_callG (df_fn fr.tk (F__law_made_b (P := P) (w := w) (base := base) h) (hr.mono (j := 6) (by decide)) (h.kp 25)) (by rfl) (h.g 25) (sa_cons (se_var (i := 1)) (sa_cons (se_var (i := 4)) sa_nil))) (sa_cons (se_callG (df_fn fr.tk (F__law_made_b (P := P) (w := w) (base := base) h) (hr.mono (j := 6) (by decide)) (h.kp 25)) (by rfl) (h.g 25) (sa_cons (se_var (i := 1)) (sa_cons (se_var (i := 5)) sa_nil))) sa_nil))))
   (sb_cons (ss_set (i := 9) (se_tup (sa_cons (se_fld (se_var (i := 6)) h.nas) (sa_cons (se_fld (se_var (i := 7)) h.nas) (sa_cons (se_fld (se_var (i := 8)) h.nas) sa_nil)))) sc__law_part_two.nd)
   (sb_cons (ss_for fr (si_seq (se_lst (sa_cons (se_tup (sa_cons (se_var (i := 6)) (sa_cons (se_var (i := 3)) sa_nil))) (sa_cons (se_tup (sa_cons (se_var (i := 7)) (sa_cons (se_var (i := 4)) sa_nil))) sa_nil)))) (sg_tup (gs := [(gN 10), (gN 11)]) fr.calm (sgs_cons (sg_name (i := 10) sc__law_part_two.nd) (sgs_cons (sg_name (i := 11) sc__law_part_two.nd) sgs_nil))) (sb_one (ss_for fr (si_seq (se_lst (sa_cons (se_tup (sa_cons (se_var (i := 7)) (sa_cons (se_var (i := 4)) sa_nil))) (sa_cons (se_tup (sa_cons (se_var (i := 8)) (sa_cons (se_var (i := 5)) sa_nil))) (sa_cons (se_tup (sa_cons (se_var (i := 6)) (sa_cons (se_var (i := 3)) sa_nil))) sa_nil))))) (sg_tup (gs := [(gN 12), (gN 13)]) fr.calm (sgs_cons (sg_name (i := 12) sc__law_part_two.nd) (sgs_cons (sg_name (i := 13) sc__law_part_two.nd) sgs_nil))) (sb_cons (ss_if (st_not (st_val (se_callG (df_fn fr.tk (F__law_outcome_right (P := P) (w := w) (base := base) h) (hr.mono (j := 3) (by decide)) (h.kp 27)) (by rfl) (h.g 27) (sa_cons (se_bin (dop_binC (c := 0) h.sf (h.fd 0) (h.ff 0) (F_Ranges___or__ (P := P) (w := w) (base := base) h) (hr.mono (j := 5) (by decide))) (se_var (i := 10)) (se_var (i := 12))) (sa_cons (se_var (i := 11)) (sa_cons (se_var (i := 13)) (sa_cons se_str sa_nil))))))) (sb_one (ss_ret se_bl)) sb_nil)
     (sb_cons (ss_if (st_not (st_val (se_callG (df_fn fr.tk (F__law_outcome_right (P := P) (w := w) (base := base) h) (hr.mono (j := 3) (by decide)) (h.kp 27)) (by rfl) (h.g 27) (sa_cons (se_bin (dop_binC (c := 0) h.sf (h.fd 1) (h.ff 1) (F_Ranges___and__ (P := P) (w := w) (base := base) h) (hr.mono (j := 5) (by decide))) (se_var (i := 10)) (se_var (i := 12))) (sa_cons (se_var (i := 11)) (sa_cons (se_var (i := 13)) (sa_cons se_str sa_nil))))))) (sb_one (ss_ret se_bl)) sb_nil)
     (sb_cons (ss_if (st_not (st_val (se_callG (df_fn fr.tk (F__law_outcome_right (P := P) (w := w) (base := base) h) (hr.mono (j := 3) (by decide)) (h.kp 27)) (by rfl) (h.g 27) (sa_cons (se_bin (dop_binC (c := 0) h.sf (h.fd 2) (h.ff 2) (F_Ranges___sub__ (P := P) (w := w) (base := base) h) (hr.mono (j := 5) (by decide))) (se_var (i := 10)) (se_var (i := 12))) (sa_cons (se_var (i := 11)) (sa_cons (se_var (i := 13)) (sa_cons se_str sa_nil))))))) (sb_one (ss_ret se_bl)) sb_nil)
     (sb_one (ss_if (st_cmp (dop_neD hr.u64) (se_mt fr.tk h.cl (h.mt 6) (F_Ranges_is_within (P := P) (w := w) (base := base) h) (hr.mono (j := 4) (by decide)) (se_var (i := 10)) (sa_cons (se_var (i := 12)) sa_nil)) (se_callG (df_fn fr.tk (F__law_is_less (P := P) (w := w) (base := base) h) (hr.mono (j := 2) (by decide)) (h.kp 28)) (by rfl) (h.g 28) (sa_cons (se_var (i := 11)) (sa_cons (se_var (i := 13)) sa_nil))) (by rfl)) (sb_one (ss_ret se_bl)) sb_nil))))))))
   (sb_cons (ss_if (SW.st' (sw_or (st_cmp (dop_neC h.kcs h.eq (F_Ranges___eq__ (P := P) (w := w) (base := base) h) (hr.mono (j := 2) (by decide))) (se_bin (dop_binC (c := 0) h.sf (h.fd 0) (h.ff 0) (F_Ranges___or__ (P := P) (w := w) (base := base) h) (hr.mono (j := 5) (by decide))) (se_bin (dop_binC (c := 0) h.sf (h.fd 2) (h.ff 2) (F_Ranges___sub__ (P := P) (w := w) (base := base) h) (hr.mono (j := 5) (by decide))) (se_var (i := 6)) (se_var (i := 7))) (se_bin (dop_binC (c := 0) h.sf (h.fd 1) (h.ff 1) (F_Ranges___and__ (P := P) (w := w) (base := base) h) (hr.mono (j := 5) (by decide))) (se_var (i := 6)) (se_var (i := 7)))) (se_var (i := 6)) (by rfl)) (sw_or (st_cmp (dop_neC h.kcs h.eq (F_Ranges___eq__ (P := P) (w := w) (base := base) h) (hr.mono (j := 2) (by decide))) (se_bin (dop_binC (c := 0) h.sf (h.fd 2) (h.ff 2) (F_Ranges___sub__ (P := P) (w := w) (base := base) h) (hr.mono (j := 5) (by decide))) (se_bin (dop_binC (c := 0) h.sf (h.fd 0) (h.ff 0) (F_Ranges___or__ (P := P) (w := w) (base := base) h) (hr.mono (j := 5) (by decide))) (se_var (i := 6)) (se_var (i := 7))) (se_var (i := 7))) (se_bin (dop_binC (c := 0) h.sf (h.fd 2) (h.ff 2) (F_Ranges___sub__ (P := P) (w := w) (base := base) h) (hr.mono (j := 5) (by decide))) (se_var (i := 6)) (se_var (i := 7))) (by rfl)) (sw_or1 (st_cmp (dop_neC h.kcs h.eq (F_Ranges___eq__ (P := P) (w := w) (base := base) h) (hr.mono (j := 2) (by decide))) (se_bin (dop_binC (c := 0) h.sf (h.fd 2) (h.ff 2) (F_Ranges___sub__ (P := P) (w := w) (base := base) h) (hr.mono (j := 5) (by decide))) (se_bin (dop_binC (c := 0) h.sf (h.fd 2) (h.ff 2) (F_Ranges___sub__ (P := P) (w := w) (base := base) h) (hr.mono (j := 5) (by decide))) (se_var (i := 6)) (se_var (i := 7))) (se_var (i := 8))) (se_bin (dop_binC (c := 0) h.sf (h.fd 2) (h.ff 2) (F_Ranges___sub__ (P := P) (w := w) (base := base) h) (hr.mono (j := 5) (by decide))) (se_var (i := 6)) (se_bin (dop_binC (c := 0) h.sf (h.fd 0) (h.ff 0) (F_Ranges___or__ (P := P) (w := w) (base := base) h) (hr.mono (j := 5) (by decide))) (se_var (i := 7)) (se_var (i := 8)))) (by rfl)))))) (sb_one (ss_ret se_bl)) sb_nil)
   (sb_cons (ss_if (SW.st' (sw_or (st_cmp (dop_neC h.kcs h.eq (F_Ranges___eq__ (P := P) (w := w) (base := base) h) (hr.mono (j := 2) (by decide))) (se_bin (dop_binC (c := 0) h.sf (h.fd 1) (h.ff 1) (F_Ranges___and__ (P := P) (w := w) (base := base) h) (hr.mono (j := 5) (by decide))) (se_bin (dop_binC (c := 0) h.sf (h.fd 0) (h.ff 0) (F_Ranges___or__ (P := P) (w := w) (base := base) h) (hr.mono (j := 5) (by decide))) (se_var (i := 6)) (se_var (i := 7))) (se_var (i := 8))) (se_bin (dop_binC (c := 0) h.sf (h.fd 0) (h.ff 0) (F_Ranges___or__ (P := P) (w := w) (base := base) h) (hr.mono (j := 5) (by decide))) (se_bin (dop_binC (c := 0) h.sf (h.fd 1) (h.ff 1) (F_Ranges___and__ (P := P) (w := w) (base := base) h) (hr.mono (j := 5) (by decide))) (se_var (i := 6)) (se_var (i := 8))) (se_bin (dop_binC (c := 0) h.sf (h.fd 1) (h.ff 1) (F_Ranges___and__ (P := P) (w := w) (base := base) h) (hr.mono (j := 5) (by decide))) (se_var (i := 7)) (se_var (i := 8)))) (by rfl)) (sw_or1 (st_cmp (dop_neC h.kcs h.eq (F_Ranges___eq__ (P := P) (w := w) (base := base) h) (hr.mono (j := 2) (by decide))) (se_bin (dop_binC (c := 0) h.sf (h.fd 2) (h.ff 2) (F_Ranges___sub__ (P := P) (w := w) (base := base) h) (hr.mono (j := 5) (by decide))) (se_var (i := 6)) (se_bin (dop_binC (c := 0) h.sf (h.fd 1) (h.ff 1) (F_Ranges___and__ (P := P) (w := w) (base := base) h) (hr.mono (j := 5) (by decide))) (se_var (i := 7)) (se_var (i := 8)))) (se_bin (dop_binC (c := 0) h.sf (h.fd 0) (h.ff 0) (F_Ranges___or__ (P := P) (w := w) (base := base) h) (hr.mono (j := 5) (by decide))) (se_bin (dop_binC (c := 0) h.sf (h.fd 2) (h.ff 2) (F_Ranges___sub__ (P := P) (w := w) (base := base) h) (hr.mono (j := 5) (by decide))) (se_var (i := 6)) (se_var (i := 7))) (se_bin (dop_binC (c := 0) h.sf (h.fd 2) (h.ff 2) (F_Ranges___sub__ (P := P) (w := w) (base := base) h) (hr.mono (j := 5) (by decide))) (se_var (i := 6)) (se_var (i := 8)))) (by rfl))))) (sb_one (ss_ret se_bl)) sb_nil)
   (sb_cons (ss_if (SW.st' (sw_or (st_not (st_val (se_mt fr.tk h.cl (h.mt 6) (F_Ranges_is_within (P := P) (w := w) (base := base) h) (hr.mono (j := 4) (by decide)) (se_bin (dop_binC (c := 0) h.sf (h.fd 1) (h.ff 1) (F_Ranges___and__ (P := P) (w := w) (base := base) h) (hr.mono (j := 5) (by decide))) (se_var (i := 6)) (se_var (i := 7))) (sa_cons (se_var (i := 6)) sa_nil)))) (sw_or (st_not (st_val (se_mt fr.tk h.cl (h.mt 6) (F_Ranges_is_within (P := P) (w := w) (base := base) h) (hr.mono (j := 4) (by decide)) (se_var (i := 6)) (sa_cons (se_bin (dop_binC (c := 0) h.sf (h.fd 0) (h.ff 0) (F_Ranges___or__ (P := P) (w := w) (base := base) h) (hr.mono (j := 5) (by decide))) (se_var (i := 6)) (se_var (i := 8))) sa_nil)))) (sw_or1 (st_cmp (dop_neC h.kcs h.eq (F_Ranges___eq__ (P := P) (w := w) (base := base) h) (hr.mono (j := 2) (by decide))) (se_bin (dop_binC (c := 0) h.sf (h.fd 1) (h.ff 1) (F_Ranges___and__ (P := P) (w := w) (base := base) h) (hr.mono (j := 5) (by decide))) (se_bin (dop_binC (c := 0) h.sf (h.fd 2) (h.ff 2) (F_Ranges___sub__ (P := P) (w := w) (base := base) h) (hr.mono (j := 5) (by decide))) (se_var (i := 6)) (se_var (i := 8))) (se_var (i := 8))) (se_cm0 fr.tk h.cr (h.cm 3) (F_Ranges_empty (P := P) (w := w) (base := base) h) (hr.mono (j := 5) (by decide)) (se_glob (by rfl) h.gC)) (by rfl)))))) (sb_one (ss_ret se_bl)) sb_nil)
   (sb_cons (ss_if (SW.st' (sw_or (st_cmp (dop_neC h.kcs h.eq (F_Ranges___eq__ (P := P) (w := w) (base := base) h) (hr.mono (j := 2) (by decide))) (se_bin (dop_binC (c := 0) h.sf (h.fd 2) (h.ff 2) (F_Ranges___sub__ (P := P) (w := w) (base := base) h) (hr.mono (j := 5) (by decide))) (se_cm0 fr.tk h.cr (h.cm 2) (F_Ranges_full (P := P) (w := w) (base := base) h) (hr.mono (j := 5) (by decide)) (se_glob (by rfl) h.gC)) (se_bin (dop_binC (c := 0) h.sf (h.fd 2) (h.ff 2) (F_Ranges___sub__ (P := P) (w := w) (base := base) h) (hr.mono (j := 5) (by decide))) (se_cm0 fr.tk h.cr (h.cm 2) (F_Ranges_full (P := P) (w := w) (base := base) h) (hr.mono (j := 5) (by decide)) (se_glob (by rfl) h.gC)) (se_var (i := 6)))) (se_var (i := 6)) (by rfl)) (sw_or1 (st_cmp (dop_neD hr.u64) (se_callTy (dc_boolC (c := 0) (h.fd 5) (h.ff 5) (F_Ranges___bool__ (P := P) (w := w) (base := base) h) (hr.mono (j := 3) (by decide))) (by rfl) (h.b 3) (by rfl) (sa_cons (se_bin (dop_binC (c := 0) h.sf (h.fd 1) (h.ff 1) (F_Ranges___and__ (P := P) (w := w) (base := base) h) (hr.mono (j := 5) (by decide))) (se_var (i := 6)) (se_var (i := 7))) sa_nil)) (se_cmp (dop_neD hr.u64) (se_fld (se_bin (dop_binC (c := 0) h.sf (h.fd 1) (h.ff 1) (F_Ranges___and__ (P := P) (w := w) (base := base) h) (hr.mono (j := 5) (by decide))) (se_var (i := 6)) (se_var (i := 7))) h.nas) (se_tup sa_nil) (by rfl)) (by rfl))))) (sb_one (ss_ret se_bl)) sb_nil)
   (sb_one (ss_if (st_cmp (dop_neD hr.u64) (se_tup (sa_cons (se_fld (se_var (i := 6)) h.nas) (sa_cons (se_fld (se_var (i := 7)) h.nas) (sa_cons (se_fld (se_var (i := 8)) h.nas) sa_nil)))) (se_var (i := 9)) (by rfl)) (sb_one (ss_ret se_bl)) sb_nil)))))))))))))
  (sb_one (ss_ret se_bl))))) (FD.bindsN fun _ _ _ _ _ _ us hl => match us, hl with | [_], _ => rfl)
abbrev s_law : Stmt := top 33
def m_law (CA : Ly) : MS :=
  (mRet (mAndV (mF (r__law_part_one CA) (aCons (mVar 0) aNil)) (mF (r__law_part_two CA) (aCons (mVar 0) aNil))))
def g_law (CA : Ly) : MF := body 1 (m_law CA)
def r_law (CA : Ly) : MF := ar 1 (g_law CA)
theorem sc_law : FnScope ["script"] ["script"] (defScope s_law) := C8.fnScope_by (by decide +kernel)
theorem O_law (h : Ht K mg base CA) {fd : FuncData} (FD : FunD K "law" "law" (defArgs s_law) (defBody s_law) (defScope s_law) [] [] (He.fAd K ("law", none)) fd) : FnOk P w K mg base (L2.CX P w) 8 (He.fAd K ("law", none)) fd ["script"] (spM K CA 1 (g_law CA)) :=
  sf_of FD sc_law fun cdv A outer s H E hr fr =>
  (sb_one (ss_ret (se_and (se_callG (df_fn fr.tk (F__law_part_one (P := P) (w := w) (base := base) h) (hr.mono (j := 7) (by decide)) (h.kp 21)) (by rfl) (h.g 21) (sa_cons (se_var (i := 0)) sa_nil)) (se_one (se_callG (df_fn fr.tk (F__law_part_two (P := P) (w := w) (base := base) h) (hr.mono (j := 7) (by decide)) (h.kp 29)) (by rfl) (h.g 29) (sa_cons (se_var (i := 0)) sa_nil))))))

end
end K0

set_option Elab.async false
set_option linter.all false
set_option maxRecDepth 100000
set_option maxHeartbeats 4000000
/-! K1: what the defs compute, in plain words. -/
namespace DL
theorem body_rt {n : Nat} {m : MS} {ds bx b : List D} {r : R} (h : m (ds.map some ++ List.replicate (n - ds.length) none) bx = .rt r b) (hl : b.length = bx.length) : body n m ds bx = .ok r b := by
  unfold body; rw [h]; simp [leave, hl]
theorem body_nx {n : Nat} {m : MS} {ds bx b : List D} {ρ : Sl} (h : m (ds.map some ++ List.replicate (n - ds.length) none) bx = .nx ρ b) (hl : b.length = bx.length) : body n m ds bx = .ok (.val .non) b := by
  unfold body; rw [h]; simp [leave, hl]
theorem ar_ok {n : Nat} {mf : MF} {ds bx : List D} (h : ds.length = n) : ar n mf ds bx = mf ds bx := by unfold ar; rw [if_pos h]
theorem run_rt {n k : Nat} {m : MS} {ds bx b : List D} {r : R} (h : m (ds.map some ++ List.replicate (n - ds.length) none) bx = .rt r b) (hk : ds.length = k := by rfl) (hl : b.length = bx.length := by rfl) : ar k (body n m) ds bx = .ok r b := (ar_ok hk).trans (body_rt h hl)
/-! ### evaluation -/
section
variable {ρ ρ' : Sl} {bx b b' : List D} {r r' : R}
theorem ev_un {g : D → List D → Out R} {m : ME} (h : m ρ bx = .ok r b) : mUn g m ρ bx = g r.d b := by unfold mUn; rw [h]; rfl
theorem ev_bin {g : D → D → List D → Out R} {m m' : ME} (h : m ρ bx = .ok r b) (h' : m' ρ b = .ok r' b') : mBin g m m' ρ bx = g r.d r'.d b' := by
  unfold mBin; rw [h]; simp only [Out.bind_ok]; rw [h']; rfl
theorem ev_test {m : ME} {k : Bool} (h : m ρ bx = .ok (.val (.bl k)) b) : mTest m ρ bx = .ok k b := by unfold mTest; rw [h]; rfl
theorem ev_andT {m m' : MB} (h : m ρ bx = .ok true b) : mAnd m m' ρ bx = m' ρ b := by unfold mAnd; rw [h]; rfl
theorem ev_andF {m m' : MB} (h : m ρ bx = .ok false b) : mAnd m m' ρ bx = .ok false b := by unfold mAnd; rw [h]; rfl
theorem ev_orT {m m' : MB} (h : m ρ bx = .ok true b) : mOr m m' ρ bx = .ok true b := by unfold mOr; rw [h]; rfl
theorem ev_orF {m m' : MB} (h : m ρ bx = .ok false b) : mOr m m' ρ bx = m' ρ b := by unfold mOr; rw [h]; rfl
theorem ev_not {m : MB} {k : Bool} (h : m ρ bx = .ok k b) : mNot m ρ bx = .ok (!k) b := by unfold mNot; rw [h]; rfl
theorem ev_nil : aNil ρ bx = .ok [] bx := rfl
theorem ev_cons {m : ME} {a : MA} {ds : List D} (h : m ρ bx = .ok r b) (h' : a ρ b = .ok ds b') : aCons m a ρ bx = .ok (r.d :: ds) b' := by
  unfold aCons; rw [h]; simp only [Out.bind_ok]; rw [h']; rfl
theorem ev_F {mf : MF} {a : MA} {ds : List D} (h : a ρ bx = .ok ds b) : mF mf a ρ bx = mf ds b := by unfold mF; rw [h]; rfl
theorem ev_CB {g : List D → List D → Out R} {a : MA} {ds : List D} (h : a ρ bx = .ok ds b) : mCB g a ρ bx = g ds b := by unfold mCB; rw [h]; rfl
theorem ev_seq {m m' : MS} (h : m ρ bx = .nx ρ' b) : mSeq m m' ρ bx = m' ρ' b := by unfold mSeq; rw [h]
theorem ev_seqR {m m' : MS} (h : m ρ bx = .rt r b) : mSeq m m' ρ bx = .rt r b := by unfold mSeq; rw [h]
theorem ev_ifT {t : MB} {m m' : MS} (h : t ρ bx = .ok true b) : mIfS t m m' ρ bx = m ρ b := by unfold mIfS; rw [h]; rfl
theorem ev_ifF {t : MB} {m m' : MS} (h : t ρ bx = .ok false b) : mIfS t m m' ρ bx = m' ρ b := by unfold mIfS; rw [h]; rfl
theorem ev_asg {m : ME} {i : Nat} (h : m ρ bx = .ok r b) : mAsg m (gN i) ρ bx = .nx (ρ.set i (some r.d)) b := by unfold mAsg; rw [h]; rfl
theorem ev_expr {m : ME} (h : m ρ bx = .ok r b) : mExpr m ρ bx = .nx ρ b := by unfold mExpr; rw [h]; rfl
theorem ev_box {m : ME} {i : Nat} {d : D} (h : m ρ bx = .ok (.new d) b) : mBox m i ρ bx = .nx (ρ.set i (some (.box b.length))) (b ++ [d]) := by unfold mBox; rw [h]; rfl
theorem ev_setIx {m mo mi : ME} {o i : R} {b1 b2 b3 : List D} (h : m ρ bx = .ok r b) (ho : mo ρ b = .ok o b1) (hi : mi ρ b1 = .ok i b2) (hs : setD o.d i.d r.d b2 = some b3) : mSetIx m mo mi ρ bx = .nx ρ b3 := by
  unfold mSetIx; rw [h]; simp only [liftE]; rw [ho]; simp only [liftE]; rw [hi]; simp only [liftE]; rw [hs]
theorem ev_ret {m : ME} (h : m ρ bx = .ok r b) : mRet m ρ bx = .rt r b := by unfold mRet; rw [h]; rfl
end
end DL
namespace K0
open PySem DL
abbrev oD : Option Int → D
  | none => .non
  | some i => .int i
def emp : Option Int → Option Int → Bool
  | some i, some j => decide (i > j)
  | _, _ => false
theorem c_is_empty (CA : Ly) (l h : Option Int) (bx : List D) : r_is_empty CA [oD l, oD h] bx = .ok (.val (.bl (emp l h))) bx := by
  cases l <;> cases h <;> exact run_rt rfl
def hiLow : Option Int → Option Int → Option Int
  | none, o => o
  | some i, none => some i
  | some i, some j => some (max i j)
def loHigh : Option Int → Option Int → Option Int
  | none, o => o
  | some i, none => some i
  | some i, some j => some (min i j)
def hiHigh : Option Int → Option Int → Option Int
  | some i, some j => some (max i j)
  | _, _ => none
theorem c_higher_low (CA : Ly) (l h : Option Int) (bx : List D) : r_higher_low CA [oD l, oD h] bx = .ok (.val (oD (hiLow l h))) bx := by
  cases l <;> cases h <;> exact run_rt rfl
theorem c_lower_high (CA : Ly) (l h : Option Int) (bx : List D) : r_lower_high CA [oD l, oD h] bx = .ok (.val (oD (loHigh l h))) bx := by
  cases l <;> cases h <;> exact run_rt rfl
theorem c_higher_high (CA : Ly) (l h : Option Int) (bx : List D) : r_higher_high CA [oD l, oD h] bx = .ok (.val (oD (hiHigh l h))) bx := by
  cases l <;> cases h <;> exact run_rt rfl
end K0

set_option Elab.async false
set_option linter.all false
set_option maxRecDepth 100000
set_option maxHeartbeats 4000000
/-! K2: stretches as data; joined. -/
namespace K0
open PySem DL
abbrev Stretch := Option Int × Option Int
abbrev sD (s : Stretch) : D := .tup [oD s.1, oD s.2]
def oP : Option Int → PyData
  | none => .none
  | some i => .int i
def sP (s : Stretch) : PyData := .tuple [oP s.1, oP s.2]
theorem toP_o (o : Option Int) : (oD o).toP = some (oP o) := by cases o <;> rfl
theorem toP_s (s : Stretch) : (sD s).toP = some (sP s) := by
  obtain ⟨a, b⟩ := s
  cases a <;> cases b <;> rfl
theorem toPs_s : ∀ st : List Stretch, D.toPs (st.map sD) = some (st.map sP)
  | [] => rfl
  | s :: st => by
    have h := toPs_s st
    show (match (sD s).toP, D.toPs (st.map sD) with | some p, some ps => some (p :: ps) | _, _ => none) = _
    rw [toP_s, h]
    rfl
theorem lay_s (s : Stretch) : (sP s).canLay0 = true := by
  obtain ⟨a, b⟩ := s
  cases a <;> cases b <;> rfl
theorem lays_s : ∀ st : List Stretch, PyData.canLayAll0 (st.map sP) = true
  | [] => rfl
  | s :: st => by
    show ((sP s).canLay0 && PyData.canLayAll0 (st.map sP)) = true
    rw [lay_s, lays_s st]; rfl
theorem deep_s (s : Stretch) : (sP s).depth = 1 := by
  obtain ⟨a, b⟩ := s
  cases a <;> cases b <;> simp [sP, oP, PyData.depth, PyData.depthAll]
theorem deeps_s : ∀ st : List Stretch, PyData.depthAll (st.map sP) ≤ 1
  | [] => by simp [PyData.depthAll]
  | s :: st => by
    have h := deeps_s st
    have h2 := deep_s s
    simp only [List.map_cons, PyData.depthAll]
    omega
theorem shaped_l (st : List Stretch) : SeqAt.shaped (.list (st.map sP)) = true := by
  have h := deeps_s st
  have h2 : (PyData.list (st.map sP)).depth ≤ 64 := by simp only [PyData.depth]; omega
  unfold SeqAt.shaped
  rw [show (PyData.list (st.map sP)).canLay0 = PyData.canLayAll0 (st.map sP) from rfl, lays_s, decide_eq_true h2]; rfl
theorem shaped_t (st : List Stretch) : SeqAt.shaped (.tuple (st.map sP)) = true := by
  have h := deeps_s st
  have h2 : (PyData.tuple (st.map sP)).depth ≤ 64 := by simp only [PyData.depth]; omega
  unfold SeqAt.shaped
  rw [show (PyData.tuple (st.map sP)).canLay0 = PyData.canLayAll0 (st.map sP) from rfl, lays_s, decide_eq_true h2]; rfl
theorem eqv_nil (st : List Stretch) : PyData.eqv (.list (st.map sP)) (.list []) = st.isEmpty := by
  cases st <;> rfl
/-- found != [], found a box -/
theorem ne_box {n : Nat} {st : List Stretch} {bx : List D} (h : bx[n]? = some (.lst (st.map sD))) : neD (.box n) (.lst []) bx = .ok (.val (.bl (!st.isEmpty))) bx := by
  have e : D.toPB bx (.box n) = some (.list (st.map sP)) := by
    show (match bx[n]? with | some (.lst ds) => (match D.toPs ds with | some ps => some (PyData.list ps) | none => none) | _ => none) = _
    rw [h]
    simp only [toPs_s]
  unfold neD
  rw [e]
  show (if SeqAt.shaped (.list (st.map sP)) = true ∧ SeqAt.shaped (.list []) = true then OK (.bl (!PyData.eqv (.list (st.map sP)) (.list []))) bx else .stk) = _
  rw [if_pos ⟨shaped_l st, rfl⟩, eqv_nil]
theorem at_last {α : Type} (xs : List α) (x : α) : L2.atI (xs ++ [x]) (-1) = some x := by
  unfold L2.atI L2.ixN
  simp only [List.length_append, List.length_singleton]
  have h1 : ¬ (0 : Int) ≤ -1 := by omega
  have h2 : -(((xs.length + 1 : Nat)) : Int) ≤ -1 := by omega
  rw [if_neg h1, if_pos h2]
  have h3 : (-1 + ((xs.length + 1 : Nat) : Int)).toNat = xs.length := by omega
  simp only [Option.bind_some]
  have h4 : (((xs.length + 1 : Nat) : Int) + -1).toNat = xs.length := by omega
  first | rw [h3] | rw [h4]
  simp
/-- found[-1] -/
theorem ix_last {n : Nat} {ds : List D} {d : D} {bx : List D} (h : bx[n]? = some (.lst (ds ++ [d]))) : ixD (.box n) (.int (-1)) bx = .ok (.val d) bx := by
  have e : D.sL bx (.box n) = some (ds ++ [d]) := by
    show (match bx[n]? with | some (.lst ds) => some ds | _ => none) = _
    rw [h]
  show (match D.sL bx (.box n) with | some ds => (match L2.atI ds (-1) with | some d => OK d bx | none => .stk) | none => _) = _
  rw [e]
  simp only [at_last]
end K0

set_option Elab.async false
set_option linter.all false
set_option maxRecDepth 100000
set_option maxHeartbeats 4000000
/-! K3: joined. -/
namespace K0
open PySem DL
/-- the body of the loop in joined, by its own name -/
def m_jc : MB := mAnd (mTest (mBin neD (mVar 1) (mLst aNil))) (mOr (mTest (mUn isN (mVar 2))) (mOr (mTest (mUn isN (mBin ixD (mBin ixD (mVar 1) (mUn negI (mC (.int 1)))) (mC (.int 1))))) (mTest (mBin leI (mVar 2) (mBin addI (mBin ixD (mBin ixD (mVar 1) (mUn negI (mC (.int 1)))) (mC (.int 1))) (mC (.int 1)))))))
def m_jt (CA : Ly) : MS := mSetIx (mTup (aCons (mBin ixD (mBin ixD (mVar 1) (mUn negI (mC (.int 1)))) (mC (.int 0))) (aCons (mF (r_higher_high CA) (aCons (mBin ixD (mBin ixD (mVar 1) (mUn negI (mC (.int 1)))) (mC (.int 1))) (aCons (mVar 3) aNil))) aNil))) (mVar 1) (mUn negI (mC (.int 1)))
def m_je : MS := mExpr (mBm appD (mVar 1) (aCons (mTup (aCons (mVar 2) (aCons (mVar 3) aNil))) aNil))
theorem m_joined_eq (CA : Ly) : m_joined CA = mSeq (mBox (mLst aNil) 1) (mSeq (mFor (iSeq (mSortLow (mVar 0))) (gTup [(gN 2), (gN 3)]) (mIfS m_jc (m_jt CA) m_je)) (mRet (mCB (un1 tupD) (aCons (mVar 1) aNil)))) := rfl
/-- whether a stretch goes on where the last one ends -/
def goes (last : Stretch) (s : Stretch) : Bool := match s.1, last.2 with
  | none, _ => true
  | _, none => true
  | some l, some b => decide (l ≤ b + 1)
variable {x : D} {n : Nat} {bx : List D}
abbrev sl (x : D) (n : Nat) (s : Stretch) : Sl := [some x, some (.box n), some (oD s.1), some (oD s.2)]
theorem jc_nil {s : Stretch} (h : bx[n]? = some (.lst [])) : m_jc (sl x n s) bx = .ok false bx := by
  have e := ne_box (st := []) h
  show (Out.bind (mTest (mBin neD (mVar 1) (mLst aNil)) (sl x n s) bx) _) = _
  have e2 : mTest (mBin neD (mVar 1) (mLst aNil)) (sl x n s) bx = .ok false bx := by
    show Out.bind (neD (.box n) (.lst []) bx) _ = _
    rw [e]
    rfl
  rw [e2]
  rfl
theorem jc_snoc {s t : Stretch} {st : List Stretch} (h : bx[n]? = some (.lst (st.map sD ++ [sD t]))) : m_jc (sl x n s) bx = .ok (goes t s) bx := by
  have hm : bx[n]? = some (.lst ((st ++ [t]).map sD)) := by rw [List.map_append]; exact h
  have e := ne_box hm
  have e3 : (!(st ++ [t]).isEmpty) = true := by cases st <;> rfl
  rw [e3] at e
  have e2 : mTest (mBin neD (mVar 1) (mLst aNil)) (sl x n s) bx = .ok true bx := by
    show Out.bind (neD (.box n) (.lst []) bx) _ = _
    rw [e]
    rfl
  have e4 : mBin ixD (mVar 1) (mUn negI (mC (.int 1))) (sl x n s) bx = .ok (.val (sD t)) bx := by
    show ixD (.box n) (.int (-1)) bx = _
    exact ix_last h
  have e5 : mBin ixD (mBin ixD (mVar 1) (mUn negI (mC (.int 1)))) (mC (.int 1)) (sl x n s) bx = .ok (.val (oD t.2)) bx := by
    show Out.bind (mBin ixD (mVar 1) (mUn negI (mC (.int 1))) (sl x n s) bx) _ = _
    rw [e4]
    rfl
  show Out.bind (mTest (mBin neD (mVar 1) (mLst aNil)) (sl x n s) bx) _ = _
  rw [e2]
  obtain ⟨l, hh⟩ := s
  obtain ⟨a, b⟩ := t
  cases l with
  | none => rfl
  | some l =>
    show (mOr (mTest (mUn isN (mVar 2))) (mOr (mTest (mUn isN (mBin ixD (mBin ixD (mVar 1) (mUn negI (mC (.int 1)))) (mC (.int 1))))) (mTest (mBin leI (mVar 2) (mBin addI (mBin ixD (mBin ixD (mVar 1) (mUn negI (mC (.int 1)))) (mC (.int 1))) (mC (.int 1))))))) (sl x n (some l, hh)) bx = _
    rw [ev_orF (b := bx) rfl]
    cases b with
    | none => rw [ev_orT (b := bx) (ev_test (ev_un e5))]; rfl
    | some b =>
      rw [ev_orF (b := bx) (ev_test (ev_un e5))]
      have e8 : mBin addI (mBin ixD (mBin ixD (mVar 1) (mUn negI (mC (.int 1)))) (mC (.int 1))) (mC (.int 1)) (sl x n (some l, hh)) bx = .ok (.val (.int (b + 1))) bx := (ev_bin e5 (r' := .val (.int 1)) (b' := bx) rfl).trans rfl
      exact ev_test ((ev_bin (r := .val (.int l)) (b := bx) rfl e8).trans rfl)
/-- found.append((low, high)) -/
theorem je_ok {s : Stretch} {st : List Stretch} (h : bx[n]? = some (.lst (st.map sD))) (hl : st.length < sizeLine) : m_je (sl x n s) bx = .nx (sl x n s) (bx.set n (.lst ((st ++ [s]).map sD))) := by
  have e : mBm appD (mVar 1) (aCons (mTup (aCons (mVar 2) (aCons (mVar 3) aNil))) aNil) (sl x n s) bx = .ok (.val .non) (bx.set n (.lst ((st ++ [s]).map sD))) := by
    show (match D.sL bx (.box n) with | some _ => _ | none => _) = _
    have e1 : D.sL bx (.box n) = some (st.map sD) := by
      show (match bx[n]? with | some (.lst ds) => some ds | _ => none) = _
      rw [h]
    rw [e1]
    show appD (.box n) [sD s] bx = _
    show (match bx[n]? with | some (.lst xs) => if xs.length < sizeLine then OK .non (bx.set n (.lst (xs ++ [sD s]))) else .stk | _ => .stk) = _
    rw [h]
    simp only [List.length_map]
    rw [if_pos hl, List.map_append]
    rfl
  exact ev_expr e
theorem ixN_last (n : Nat) : L2.ixN (n + 1) (-1) = some n := by
  unfold L2.ixN
  have h1 : ¬ (0 : Int) ≤ -1 := by omega
  have h2 : -(((n + 1 : Nat)) : Int) ≤ -1 := by omega
  rw [if_neg h1, if_pos h2]
  congr 1
  omega
/-- found[-1] = (found[-1][0], higher_high(found[-1][1], high)) -/
theorem jt_ok (CA : Ly) {s t : Stretch} {st : List Stretch} (h : bx[n]? = some (.lst (st.map sD ++ [sD t]))) : m_jt CA (sl x n s) bx = .nx (sl x n s) (bx.set n (.lst ((st ++ [(t.1, hiHigh t.2 s.2)]).map sD))) := by
  have e4 : mBin ixD (mVar 1) (mUn negI (mC (.int 1))) (sl x n s) bx = .ok (.val (sD t)) bx := ix_last h
  have e5 : mBin ixD (mBin ixD (mVar 1) (mUn negI (mC (.int 1)))) (mC (.int 1)) (sl x n s) bx = .ok (.val (oD t.2)) bx := (ev_bin e4 (r' := .val (.int 1)) (b' := bx) rfl).trans rfl
  have e6 : mBin ixD (mBin ixD (mVar 1) (mUn negI (mC (.int 1)))) (mC (.int 0)) (sl x n s) bx = .ok (.val (oD t.1)) bx := (ev_bin e4 (r' := .val (.int 0)) (b' := bx) rfl).trans rfl
  have e7 : mF (r_higher_high CA) (aCons (mBin ixD (mBin ixD (mVar 1) (mUn negI (mC (.int 1)))) (mC (.int 1))) (aCons (mVar 3) aNil)) (sl x n s) bx = .ok (.val (oD (hiHigh t.2 s.2))) bx :=
    (ev_F (ev_cons e5 (ev_cons (r := .val (oD s.2)) (b := bx) rfl ev_nil))).trans (c_higher_high CA t.2 s.2 bx)
  have e8 : mTup (aCons (mBin ixD (mBin ixD (mVar 1) (mUn negI (mC (.int 1)))) (mC (.int 0))) (aCons (mF (r_higher_high CA) (aCons (mBin ixD (mBin ixD (mVar 1) (mUn negI (mC (.int 1)))) (mC (.int 1))) (aCons (mVar 3) aNil))) aNil)) (sl x n s) bx = .ok (.val (sD (t.1, hiHigh t.2 s.2))) bx := by
    unfold mTup
    rw [ev_cons e6 (ev_cons e7 ev_nil)]
    rfl
  refine ev_setIx (b1 := bx) (b2 := bx) (o := .val (.box n)) (i := .val (.int (-1))) e8 rfl rfl ?_
  show (match bx[n]? with | some (.lst ds) => (match L2.ixN ds.length (-1) with | some j => some (bx.set n (.lst (ds.set j (sD (t.1, hiHigh t.2 s.2))))) | none => none) | _ => none) = _
  rw [h]
  simp only [List.length_append, List.length_singleton, List.length_map, ixN_last]
  have e9 : (st.map sD ++ [sD t]).set st.length (sD (t.1, hiHigh t.2 s.2)) = (st ++ [(t.1, hiHigh t.2 s.2)]).map sD := by
    rw [List.map_append, List.set_append_right _ _ (by simp)]
    simp
  rw [e9]
/-- one step of joined -/
def jstep (acc : List Stretch) (s : Stretch) : List Stretch := match acc.getLast? with
  | none => acc ++ [s]
  | some t => if goes t s = true then acc.dropLast ++ [(t.1, hiHigh t.2 s.2)] else acc ++ [s]
theorem jstep_len (acc : List Stretch) (s : Stretch) : (jstep acc s).length ≤ acc.length + 1 := by
  unfold jstep
  cases acc.getLast? with
  | none => simp
  | some t =>
    dsimp only
    split
    · simp
    · simp
theorem jbody (CA : Ly) {s : Stretch} {st : List Stretch} (h : bx[n]? = some (.lst (st.map sD))) (hl : st.length < sizeLine) : mIfS m_jc (m_jt CA) m_je (sl x n s) bx = .nx (sl x n s) (bx.set n (.lst ((jstep st s).map sD))) := by
  rcases List.eq_nil_or_concat st with rfl | ⟨init, t, rfl⟩
  · rw [ev_ifF (jc_nil h)]
    exact je_ok (st := []) h hl
  · have h2 : bx[n]? = some (.lst (init.map sD ++ [sD t])) := by rw [h]; simp
    have e : jstep (init.concat t) s = if goes t s = true then init ++ [(t.1, hiHigh t.2 s.2)] else init.concat t ++ [s] := by
      unfold jstep; simp
    have hc := jc_snoc (x := x) (s := s) h2
    rw [e]
    cases g : goes t s with
    | true =>
      rw [g] at hc
      rw [ev_ifT hc, jt_ok CA h2]
      simp
    | false =>
      rw [g] at hc
      rw [ev_ifF hc, je_ok h hl]
      simp
end K0

set_option Elab.async false
set_option linter.all false
set_option maxRecDepth 100000
set_option maxHeartbeats 4000000
/-! K4: joined, whole. -/
namespace K0
open PySem DL
theorem set_set {α : Type} (l : List α) (n : Nat) (a b : α) : (l.set n a).set n b = l.set n b := by simp
theorem jloop (CA : Ly) {x : D} {n : Nat} : ∀ (zs acc : List Stretch) (p q : Option D) (bx : List D), bx[n]? = some (.lst (acc.map sD)) → acc.length + zs.length ≤ sizeLine →
    ∃ p' q', loop (gTup [gN 2, gN 3]) (mIfS m_jc (m_jt CA) m_je) (zs.map sD) [some x, some (.box n), p, q] bx = .nx [some x, some (.box n), p', q'] (bx.set n (.lst ((zs.foldl jstep acc).map sD)))
  | [], acc, p, q, bx, h, _ => by
    refine ⟨p, q, ?_⟩
    show OutS.nx _ bx = _
    have e : bx.set n (.lst (acc.map sD)) = bx := by
      obtain ⟨hl, he⟩ := List.getElem?_eq_some_iff.mp h
      rw [← he]; exact List.set_getElem_self hl
    rw [List.foldl_nil, e]
  | s :: zs, acc, p, q, bx, h, hl => by
    have hn : n < bx.length := (List.getElem?_eq_some_iff.mp h).1
    have hb := jbody (x := x) CA (s := s) h (by simp at hl; omega)
    have h2 : (bx.set n (.lst ((jstep acc s).map sD)))[n]? = some (.lst ((jstep acc s).map sD)) := List.getElem?_set_self hn
    have hl2 : (jstep acc s).length + zs.length ≤ sizeLine := by
      have := jstep_len acc s
      simp at hl; omega
    obtain ⟨p', q', e⟩ := jloop CA zs (jstep acc s) (some (oD s.1)) (some (oD s.2)) _ h2 hl2
    refine ⟨p', q', ?_⟩
    rw [set_set] at e
    rw [List.foldl_cons, ← e]
    show (match gTup [gN 2, gN 3] (sD s) [some x, some (.box n), p, q] with
      | none => OutS.stk
      | some ρ1 => (match mIfS m_jc (m_jt CA) m_je ρ1 bx with
        | .nx ρ' b' => loop (gTup [gN 2, gN 3]) (mIfS m_jc (m_jt CA) m_je) (zs.map sD) ρ' b'
        | .ct ρ' b' => loop (gTup [gN 2, gN 3]) (mIfS m_jc (m_jt CA) m_je) (zs.map sD) ρ' b'
        | .bk ρ' b' => .nx ρ' b'
        | o => o)) = _
    have eg : gTup [gN 2, gN 3] (sD s) [some x, some (.box n), p, q] = some (sl x n s) := rfl
    rw [eg]
    simp only
    rw [hb]
/-- sorted by low ends -/
def sorted (st : List Stretch) : List Stretch := st.mergeSort fun p q => lowLe p.1 q.1
def joinL (st : List Stretch) : List Stretch := (sorted st).foldl jstep []
theorem low_s (s : Stretch) : lowD (sD s) = some s.1 := by
  obtain ⟨a, b⟩ := s
  cases a <;> rfl
theorem sort_s (st : List Stretch) : sortLow (st.map sD) = (sorted st).map sD := by
  unfold sortLow sorted
  rw [List.map_mergeSort (r := fun p q : Stretch => lowLe p.1 q.1) (s := fun p q => lowLe (dLow p) (dLow q)) (f := sD)]
  intro a _ b _
  unfold dLow
  rw [low_s, low_s]; rfl
theorem cls_s (b : Nat) : ∀ st : List Stretch, D.cls b (st.map sD) = true
  | [] => rfl
  | s :: st => by
    show ((sD s).cl b && D.cls b (st.map sD)) = true
    rw [cls_s b st]
    obtain ⟨l, h⟩ := s
    cases l <;> cases h <;> rfl
end K0

set_option Elab.async false
set_option linter.all false
set_option maxRecDepth 100000
set_option maxHeartbeats 4000000
namespace DL
/-- a def that boxes something of its own: the boxes of the caller stay -/
theorem run_rtC {n k : Nat} {m : MS} {ds bx ex : List D} {d : D} (h : m (ds.map some ++ List.replicate (n - ds.length) none) bx = .rt (.val d) (bx ++ ex)) (hb : bx.all (D.cl bx.length) = true) (hd : d.cl bx.length = true) (hn : ∀ j, d ≠ .box j) (hk : ds.length = k := by rfl) : ar k (body n m) ds bx = .ok (.val d) bx := by
  rw [ar_ok hk]
  unfold body
  rw [h]
  show leave bx.length (.val d) (bx ++ ex) = _
  unfold leave
  by_cases e : (bx ++ ex).length = bx.length
  · rw [if_pos e]
    have : ex = [] := by rw [List.length_append] at e; exact List.length_eq_zero_iff.mp (by omega)
    rw [this, List.append_nil]
  · rw [if_neg e, List.take_left', if_pos hb]
    · cases d with
      | box j => exact absurd rfl (hn j)
      | _ => simp only [hd, if_true]
    · rfl
end DL
namespace K0
open PySem DL
theorem c_joinedS (CA : Ly) {x : D} {st : List Stretch} {bx : List D} (hs : x.seq (bx ++ [D.lst []]) = some (st.map sD)) (hl : st.length ≤ sizeLine) (hb : bx.all (D.cl bx.length) = true) : r_joined CA [x] bx = .ok (.val (.tup ((joinL st).map sD))) bx := by
  have h1 : (bx ++ [D.lst []])[bx.length]? = some (.lst (([] : List Stretch).map sD)) := by simp
  have sl : (sorted st).length = st.length := by unfold sorted; simp
  obtain ⟨p, q, e⟩ := jloop CA (x := x) (n := bx.length) (sorted st) [] none none (bx ++ [.lst []]) h1 (by rw [sl]; simpa using hl)
  have es : (bx ++ [D.lst []]).set bx.length (.lst ((joinL st).map sD)) = bx ++ [.lst ((joinL st).map sD)] := by simp
  have e' : loop (gTup [gN 2, gN 3]) (mIfS m_jc (m_jt CA) m_je) ((sorted st).map sD) [some x, some (.box bx.length), none, none] (bx ++ [.lst []]) = .nx [some x, some (.box bx.length), p, q] (bx ++ [.lst ((joinL st).map sD)]) := by rw [e]; congr 1
  refine run_rtC (ex := [.lst ((joinL st).map sD)]) ?_ hb (cls_s _ _) (fun j z => by cases z)
  rw [m_joined_eq]
  have a1 : mBox (mLst aNil) 1 [some x, none, none, none] bx = .nx [some x, some (.box bx.length), none, none] (bx ++ [.lst []]) := ev_box (m := mLst aNil) (i := 1) (d := .lst []) (b := bx) rfl
  rw [show ([x].map some ++ List.replicate (4 - [x].length) none : Sl) = [some x, none, none, none] from rfl, ev_seq a1]
  have a2 : iSeq (mSortLow (mVar 0)) [some x, some (.box bx.length), none, none] (bx ++ [.lst []]) = .ok ((sorted st).map sD) (bx ++ [.lst []]) := by
    have hall : ((st.map sD).all fun d => (lowD d).isSome) = true := by
      rw [List.all_map, List.all_eq_true]
      intro s _
      show (lowD (sD s)).isSome = true
      rw [low_s]; rfl
    have a3 : mSortLow (mVar 0) [some x, some (.box bx.length), none, none] (bx ++ [.lst []]) = .ok (.new (.lst ((sorted st).map sD))) (bx ++ [.lst []]) := by
      show (match x.seq (bx ++ [D.lst []]) with | some ds => if (ds.all fun d => (lowD d).isSome) = true then Out.ok (R.new (D.lst (sortLow ds))) (bx ++ [D.lst []]) else Out.stk | none => Out.stk) = _
      rw [hs]
      simp only
      rw [if_pos hall, sort_s]
    unfold iSeq
    rw [a3]
    rfl
  have a4 : mFor (iSeq (mSortLow (mVar 0))) (gTup [(gN 2), (gN 3)]) (mIfS m_jc (m_jt CA) m_je) [some x, some (.box bx.length), none, none] (bx ++ [.lst []]) = .nx [some x, some (.box bx.length), p, q] (bx ++ [.lst ((joinL st).map sD)]) := by
    unfold mFor
    rw [a2]
    exact e'
  rw [ev_seq a4]
  refine ev_ret ?_
  have hq : (bx ++ [D.lst ((joinL st).map sD)])[bx.length]? = some (.lst ((joinL st).map sD)) := by simp
  rw [ev_CB (ev_cons (r := .val (.box bx.length)) (b := bx ++ [D.lst ((joinL st).map sD)]) rfl ev_nil)]
  show (match (match (bx ++ [D.lst ((joinL st).map sD)])[bx.length]? with | some (.lst ds) => some ds | _ => none) with | some ds => OK (.tup ds) (bx ++ [D.lst ((joinL st).map sD)]) | none => .stk) = _
  rw [hq]
theorem c_joined (CA : Ly) {x : D} {st : List Stretch} {bx : List D} (hx : x = .lst (st.map sD) ∨ x = .tup (st.map sD)) (hl : st.length ≤ sizeLine) (hb : bx.all (D.cl bx.length) = true) : r_joined CA [x] bx = .ok (.val (.tup ((joinL st).map sD))) bx :=
  c_joinedS CA (by rcases hx with rfl | rfl <;> rfl) hl hb
theorem c_joinedB (CA : Ly) {st : List Stretch} {bx : List D} (hl : st.length ≤ sizeLine) (hb : (bx ++ [D.lst (st.map sD)]).all (D.cl (bx ++ [D.lst (st.map sD)]).length) = true) : r_joined CA [.box bx.length] (bx ++ [.lst (st.map sD)]) = .ok (.val (.tup ((joinL st).map sD))) (bx ++ [.lst (st.map sD)]) := by
  refine c_joinedS CA ?_ hl hb
  show D.sL _ (.box bx.length) = _
  show (match (bx ++ [D.lst (st.map sD)] ++ [D.lst []])[bx.length]? with | some (.lst ds) => some ds | _ => none) = _
  simp
end K0

set_option Elab.async false
set_option linter.all false
set_option maxRecDepth 100000
set_option maxHeartbeats 4000000
/-! KM: what joinL means. -/
namespace K0
/-- a number in a stretch, in some stretches -/
def inS (s : Stretch) (n : Int) : Prop := (∀ l, s.1 = some l → l ≤ n) ∧ ∀ h, s.2 = some h → n ≤ h
def mem (st : List Stretch) (n : Int) : Prop := ∃ s ∈ st, inS s n
/-- a stretch with numbers -/
def okS (s : Stretch) : Prop := ∀ l h, s.1 = some l → s.2 = some h → l ≤ h
/-- one ends, and the other begins beyond a number that is in neither -/
def gap (p q : Stretch) : Prop := ∃ b c, p.2 = some b ∧ q.1 = some c ∧ b + 1 < c
structure Canon (st : List Stretch) : Prop where
  ok : ∀ s ∈ st, okS s
  gaps : st.Pairwise gap
theorem mem_append (a b : List Stretch) (n : Int) : mem (a ++ b) n ↔ mem a n ∨ mem b n := by
  constructor
  · rintro ⟨s, hs, h⟩
    rcases List.mem_append.mp hs with z | z
    · exact .inl ⟨s, z, h⟩
    · exact .inr ⟨s, z, h⟩
  · rintro (⟨s, hs, h⟩ | ⟨s, hs, h⟩)
    · exact ⟨s, List.mem_append_left _ hs, h⟩
    · exact ⟨s, List.mem_append_right _ hs, h⟩
theorem mem_one (s : Stretch) (n : Int) : mem [s] n ↔ inS s n := by
  constructor
  · rintro ⟨t, ht, h⟩
    rw [List.mem_singleton.mp ht] at h; exact h
  · exact fun h => ⟨s, List.mem_singleton.mpr rfl, h⟩
/-- two stretches that meet or touch, the lower one first -/
theorem in_both (t s : Stretch) (n : Int) (ht : okS t) (hs : okS s) (hle : DL.lowLe t.1 s.1 = true) (hg : goes t s = true) : inS (t.1, hiHigh t.2 s.2) n ↔ inS t n ∨ inS s n := by
  obtain ⟨a, b⟩ := t
  obtain ⟨l, h⟩ := s
  cases a <;> cases b <;> cases l <;> cases h <;> simp_all [inS, okS, goes, hiHigh, DL.lowLe] <;> omega
theorem ok_both (t s : Stretch) (ht : okS t) (hs : okS s) (hle : DL.lowLe t.1 s.1 = true) : okS (t.1, hiHigh t.2 s.2) := by
  obtain ⟨a, b⟩ := t
  obtain ⟨l, h⟩ := s
  cases a <;> cases b <;> cases l <;> cases h <;> simp_all [okS, hiHigh, DL.lowLe] <;> omega
theorem gap_new (t s : Stretch) (hg : goes t s = false) : gap t s := by
  obtain ⟨a, b⟩ := t
  obtain ⟨l, h⟩ := s
  cases b <;> cases l <;> simp_all [goes, gap]
theorem gap_on (p t s : Stretch) (h : gap p t) (hle : DL.lowLe t.1 s.1 = true) : gap p s := by
  obtain ⟨b, c, h1, h2, h3⟩ := h
  cases e : s.1 with
  | none => rw [h2, e] at hle; simp [DL.lowLe] at hle
  | some l =>
    rw [h2, e] at hle
    simp [DL.lowLe] at hle
    exact ⟨b, l, h1, e, by omega⟩
theorem low_trans (a b c : Option Int) (h : DL.lowLe a b = true) (h' : DL.lowLe b c = true) : DL.lowLe a c = true := by
  cases a <;> cases b <;> cases c <;> simp_all [DL.lowLe]
  omega
theorem jfold : ∀ (zs acc : List Stretch), Canon acc → (∀ s ∈ zs, okS s) → zs.Pairwise (fun p q => DL.lowLe p.1 q.1 = true) → (∀ t, acc.getLast? = some t → ∀ s ∈ zs, DL.lowLe t.1 s.1 = true) →
    Canon (zs.foldl jstep acc) ∧ ∀ n, mem (zs.foldl jstep acc) n ↔ mem acc n ∨ mem zs n
  | [], acc, hc, _, _, _ => ⟨hc, fun n => by
    rw [List.foldl_nil]
    exact ⟨.inl, fun h => h.elim id fun ⟨s, hs, _⟩ => by simp at hs⟩⟩
  | s :: zs, acc, hc, hv, hp, hl => by
    have hs := hv s (List.mem_cons_self ..)
    obtain ⟨hp1, hp2⟩ := List.pairwise_cons.mp hp
    have key : Canon (jstep acc s) ∧ (∀ n, mem (jstep acc s) n ↔ mem acc n ∨ inS s n) ∧ ∀ t, (jstep acc s).getLast? = some t → ∀ z ∈ zs, DL.lowLe t.1 z.1 = true := by
      rcases List.eq_nil_or_concat acc with rfl | ⟨init, t, rfl⟩
      · refine ⟨⟨fun z hz => ?_, by simp [jstep]⟩, fun n => ?_, fun t ht z hz => ?_⟩
        · have : z = s := by simpa [jstep] using hz
          exact this ▸ hs
        · show mem [s] n ↔ _
          rw [mem_one]
          exact ⟨.inr, fun h => h.elim (fun ⟨x, hx, _⟩ => by simp at hx) id⟩
        · have : s = t := by simpa [jstep] using ht
          exact this ▸ hp1 z hz
      · have e : jstep (init.concat t) s = if goes t s = true then init ++ [(t.1, hiHigh t.2 s.2)] else init ++ [t] ++ [s] := by
          unfold jstep; simp
        have hle : DL.lowLe t.1 s.1 = true := hl t (by simp) s (List.mem_cons_self ..)
        have ht : okS t := hc.ok t (by simp)
        have hin : ∀ z ∈ init, okS z := fun z hz => hc.ok z (by simp [hz])
        have hg := hc.gaps
        rw [List.concat_eq_append, List.pairwise_append] at hg
        obtain ⟨g1, _, g2⟩ := hg
        have g2' : ∀ p ∈ init, gap p t := fun p hp => g2 p hp t (List.mem_singleton.mpr rfl)
        rw [e, List.concat_eq_append]
        cases g : goes t s with
        | true =>
          rw [if_pos rfl]
          refine ⟨⟨fun z hz => ?_, ?_⟩, fun n => ?_, fun t' ht' z hz => ?_⟩
          · rcases List.mem_append.mp hz with h | h
            · exact hin z h
            · rw [List.mem_singleton.mp h]; exact ok_both t s ht hs hle
          · rw [List.pairwise_append]
            refine ⟨g1, List.pairwise_singleton _ _, fun p hp q hq => ?_⟩
            rw [List.mem_singleton.mp hq]
            obtain ⟨b, c, h1, h2, h3⟩ := g2' p hp
            exact ⟨b, c, h1, h2, h3⟩
          · rw [mem_append, mem_append, mem_one, mem_one, in_both t s n ht hs hle g]
            exact or_assoc.symm
          · have : (t.1, hiHigh t.2 s.2) = t' := by simpa using ht'
            rw [← this]
            exact low_trans _ _ _ hle (hp1 z hz)
        | false =>
          rw [if_neg (by simp)]
          refine ⟨⟨fun z hz => ?_, ?_⟩, fun n => ?_, fun t' ht' z hz => ?_⟩
          · rcases List.mem_append.mp hz with h | h
            · exact hc.ok z (by rw [List.concat_eq_append]; exact h)
            · rw [List.mem_singleton.mp h]; exact hs
          · rw [List.pairwise_append]
            have hg0 := hc.gaps
            rw [List.concat_eq_append] at hg0
            refine ⟨hg0, List.pairwise_singleton _ _, fun p hp q hq => ?_⟩
            rw [List.mem_singleton.mp hq]
            rcases List.mem_append.mp hp with h | h
            · exact gap_on p t s (g2' p h) hle
            · rw [List.mem_singleton.mp h]; exact gap_new t s g
          · rw [mem_append, mem_one]
          · have : s = t' := by simpa using ht'
            rw [← this]
            exact hp1 z hz
    obtain ⟨k1, k2, k3⟩ := key
    obtain ⟨r1, r2⟩ := jfold zs (jstep acc s) k1 (fun z hz => hv z (List.mem_cons_of_mem _ hz)) hp2 k3
    refine ⟨r1, fun n => ?_⟩
    rw [List.foldl_cons, r2 n, k2 n]
    have : mem (s :: zs) n ↔ inS s n ∨ mem zs n := by
      rw [show s :: zs = [s] ++ zs from rfl, mem_append, mem_one]
    rw [this]
    exact or_assoc
theorem low_total (a b : Option Int) : (DL.lowLe a b || DL.lowLe b a) = true := by
  cases a <;> cases b <;> simp [DL.lowLe]
  omega
theorem join_ok {st : List Stretch} (h : ∀ s ∈ st, okS s) : Canon (joinL st) ∧ ∀ n, mem (joinL st) n ↔ mem st n := by
  have pm : (sorted st).Perm st := List.mergeSort_perm _ _
  have hp : (sorted st).Pairwise (fun p q => DL.lowLe p.1 q.1 = true) := List.pairwise_mergeSort (le := fun p q : Stretch => DL.lowLe p.1 q.1) (fun a b c => low_trans _ _ _) (fun a b => low_total _ _) st
  obtain ⟨h1, h2⟩ := jfold (sorted st) [] ⟨fun s hs => by simp at hs, List.Pairwise.nil⟩ (fun s hs => h s (pm.mem_iff.mp hs)) hp (fun t ht => by simp at ht)
  refine ⟨h1, fun n => (h2 n).trans ⟨fun z => z.elim (fun ⟨s, hs, _⟩ => by simp at hs) fun ⟨s, hs, q⟩ => ⟨s, pm.mem_iff.mp hs, q⟩, fun ⟨s, hs, q⟩ => .inr ⟨s, pm.mem_iff.mpr hs, q⟩⟩⟩
end K0

set_option Elab.async false
set_option linter.all false
set_option maxRecDepth 100000
set_option maxHeartbeats 4000000
/-! KN: canonical lists with the same integers are the same. -/
namespace K0
theorem Canon.tail {s : Stretch} {st : List Stretch} (h : Canon (s :: st)) : Canon st := ⟨fun z hz => h.ok z (List.mem_cons_of_mem _ hz), (List.pairwise_cons.mp h.gaps).2⟩
/-- no number below a stretch's low end is in it or behind it -/
theorem low_first {s : Stretch} {st : List Stretch} (h : Canon (s :: st)) {l n : Int} (e : s.1 = some l) (hn : mem (s :: st) n) : l ≤ n := by
  obtain ⟨z, hz, hi⟩ := hn
  rcases List.mem_cons.mp hz with rfl | hz
  · exact hi.1 l e
  · obtain ⟨b, c, h1, h2, h3⟩ := (List.pairwise_cons.mp h.gaps).1 z hz
    have := hi.1 c h2
    have h4 := h.ok s (List.mem_cons_self ..) l b e h1
    omega
theorem mem_nil (n : Int) : ¬ mem [] n := fun ⟨s, hs, _⟩ => by simp at hs
/-- a number of a stretch -/
def aNum : Stretch → Int
  | (some l, _) => l
  | (none, some h) => h
  | (none, none) => 0
theorem aNum_in (s : Stretch) (h : okS s) : inS s (aNum s) := by
  obtain ⟨a, b⟩ := s
  cases a <;> cases b <;> simp_all [inS, aNum, okS]
end K0
namespace K0
/-- the number behind the first stretch is in none -/
theorem behind {s : Stretch} {st : List Stretch} (h : Canon (s :: st)) {b : Int} (e : s.2 = some b) : ¬ mem (s :: st) (b + 1) := by
  rintro ⟨z, hz, hi⟩
  rcases List.mem_cons.mp hz with rfl | hz
  · have := hi.2 b e; omega
  · obtain ⟨b', c, h1, h2, h3⟩ := (List.pairwise_cons.mp h.gaps).1 z hz
    rw [e] at h1; cases h1
    have := hi.1 c h2
    omega
/-- what is in a later stretch is not in the first one -/
theorem later {s : Stretch} {st : List Stretch} (h : Canon (s :: st)) {n : Int} (hn : mem st n) : ¬ inS s n := by
  obtain ⟨z, hz, hi⟩ := hn
  obtain ⟨b, c, h1, h2, h3⟩ := (List.pairwise_cons.mp h.gaps).1 z hz
  intro q
  have a1 := q.2 b h1
  have a2 := hi.1 c h2
  omega
theorem mem_cons (s : Stretch) (st : List Stretch) (n : Int) : mem (s :: st) n ↔ inS s n ∨ mem st n := by
  rw [show s :: st = [s] ++ st from rfl, mem_append, mem_one]
theorem low_same {s t : Stretch} {a b : List Stretch} (ha : Canon (s :: a)) (hb : Canon (t :: b)) (h : ∀ n, mem (s :: a) n → mem (t :: b) n) : DL.lowLe t.1 s.1 = true := by
  cases e : t.1 with
  | none => rfl
  | some l =>
    cases e2 : s.1 with
    | some l' =>
      have q : inS s l' := ⟨fun x hx => (by rw [e2] at hx; cases hx; omega), fun y hy => ha.ok s (List.mem_cons_self ..) l' y e2 hy⟩
      have := low_first hb e (h l' ((mem_cons _ _ _).mpr (.inl q)))
      simpa [DL.lowLe] using this
    | none =>
      exfalso
      have q : ∃ n, n < l ∧ inS s n := by
        cases e3 : s.2 with
        | none => exact ⟨l - 1, by omega, ⟨fun x hx => (by rw [e2] at hx; cases hx), fun y hy => by rw [e3] at hy; cases hy⟩⟩
        | some y => exact ⟨min (l - 1) y, by omega, ⟨fun x hx => (by rw [e2] at hx; cases hx), fun y' hy => by rw [e3] at hy; cases hy; omega⟩⟩
      obtain ⟨n, h1, h2⟩ := q
      have := low_first hb e (h n ((mem_cons _ _ _).mpr (.inl h2)))
      omega
theorem high_same {s t : Stretch} {a b : List Stretch} (ha : Canon (s :: a)) (hb : Canon (t :: b)) (h : ∀ n, mem (s :: a) n ↔ mem (t :: b) n) (el : s.1 = t.1) : ∀ y, s.2 = some y → ∃ z, t.2 = some z ∧ z ≤ y := by
  intro y hy
  have n1 := behind ha hy
  rw [h] at n1
  cases e : t.2 with
  | none =>
    exfalso
    refine n1 ((mem_cons _ _ _).mpr (.inl ⟨fun x hx => ?_, fun z hz => by rw [e] at hz; cases hz⟩))
    have := ha.ok s (List.mem_cons_self ..) x y (el ▸ hx) hy
    omega
  | some z =>
    refine ⟨z, rfl, ?_⟩
    apply Int.not_lt.mp
    intro hz
    refine n1 ((mem_cons _ _ _).mpr (.inl ⟨fun x hx => ?_, fun z' hz' => by rw [e] at hz'; cases hz'; omega⟩))
    have := ha.ok s (List.mem_cons_self ..) x y (el ▸ hx) hy
    omega
theorem canon_unique : ∀ (a b : List Stretch), Canon a → Canon b → (∀ n, mem a n ↔ mem b n) → a = b
  | [], [], _, _, _ => rfl
  | [], t :: b, _, hb, h => absurd ((h (aNum t)).mpr ((mem_cons _ _ _).mpr (.inl (aNum_in t (hb.ok t (List.mem_cons_self ..)))))) (mem_nil _)
  | s :: a, [], ha, _, h => absurd ((h (aNum s)).mp ((mem_cons _ _ _).mpr (.inl (aNum_in s (ha.ok s (List.mem_cons_self ..)))))) (mem_nil _)
  | s :: a, t :: b, ha, hb, h => by
    have l1 := low_same ha hb fun n => (h n).mp
    have l2 := low_same hb ha fun n => (h n).mpr
    have el : s.1 = t.1 := by
      revert l1 l2
      cases s.1 <;> cases t.1 <;> simp [DL.lowLe]
      omega
    have h1 := high_same ha hb h el
    have h2 := high_same hb ha (fun n => (h n).symm) el.symm
    have eh : s.2 = t.2 := by
      cases e : s.2 with
      | none =>
        cases e2 : t.2 with
        | none => rfl
        | some z =>
          obtain ⟨y, hy, _⟩ := h2 z e2
          rw [e] at hy; cases hy
      | some y =>
        obtain ⟨z, hz, hzy⟩ := h1 y e
        obtain ⟨y', hy', hyz⟩ := h2 z hz
        rw [e] at hy'; cases hy'
        rw [hz]
        congr 1
        omega
    have est : s = t := Prod.ext el eh
    subst est
    have : a = b := canon_unique a b ha.tail hb.tail fun n => by
      have q := h n
      rw [mem_cons, mem_cons] at q
      constructor
      · intro z
        exact (q.mp (.inr z)).elim (fun w => absurd w (later ha z)) id
      · intro z
        exact (q.mpr (.inr z)).elim (fun w => absurd w (later hb z)) id
    rw [this]
end K0

set_option Elab.async false
set_option linter.all false
set_option maxRecDepth 100000
set_option maxHeartbeats 4000000
/-! K6: has_number. -/
namespace DL
open PySem
theorem ev_andVT {ρ : Sl} {bx b : List D} {m m' : ME} (h : m ρ bx = .ok (.val (.bl true)) b) : mAndV m m' ρ bx = m' ρ b := by unfold mAndV; rw [ev_test h]; rfl
theorem ev_andVF {ρ : Sl} {bx b : List D} {m m' : ME} (h : m ρ bx = .ok (.val (.bl false)) b) : mAndV m m' ρ bx = .ok (.val (.bl false)) b := by unfold mAndV; rw [ev_test h]; rfl
theorem ev_orVT {ρ : Sl} {bx b : List D} {m m' : ME} (h : m ρ bx = .ok (.val (.bl true)) b) : mOrV m m' ρ bx = .ok (.val (.bl true)) b := by unfold mOrV; rw [ev_test h]; rfl
theorem ev_orVF {ρ : Sl} {bx b : List D} {m m' : ME} (h : m ρ bx = .ok (.val (.bl false)) b) : mOrV m m' ρ bx = m' ρ b := by unfold mOrV; rw [ev_test h]; rfl
/-- a comprehension without conditions whose elements are values -/
theorem comp_map {α : Type} (f : α → D) (g' : α → D) {g : D → Sl → Option Sl} {m : ME} {ρ : Sl} {bx : List D} (h : ∀ a, ∃ ρ1, g (f a) ρ = some ρ1 ∧ m ρ1 bx = .ok (.val (g' a)) bx) : ∀ (as : List α) (acc : List D), acc.length + as.length ≤ sizeLine →
    compL g mYes m (as.map f) ρ bx acc = .ok (acc ++ as.map g') bx
  | [], acc, _ => by simp [compL]
  | a :: as, acc, hl => by
    obtain ⟨ρ1, h1, h2⟩ := h a
    rw [List.length_cons] at hl
    have hz : (acc ++ [g' a]).length + as.length ≤ sizeLine := by rw [List.length_append, List.length_singleton]; omega
    have e := comp_map f g' h as (acc ++ [g' a]) hz
    rw [List.map_cons, List.map_cons]
    unfold compL
    rw [h1]
    simp only [mYes, noX, Out.bind_ok, if_true]
    rw [h2]
    simp only [Out.bind_ok]
    rw [if_pos (by omega)]
    show compL g mYes m (as.map f) ρ bx (acc ++ [g' a]) = _
    rw [e]
    simp
end DL
namespace K0
open PySem DL
def loB (s : Stretch) (n : Int) : Bool := match s.1 with
  | none => true
  | some l => decide (l ≤ n)
def hiB (s : Stretch) (n : Int) : Bool := match s.2 with
  | none => true
  | some h => decide (n ≤ h)
theorem hn_elt (x : D) (n : Int) (s : Stretch) (bx : List D) : mAndV (mOrV (mUn isN (mVar 2)) (mBin leI (mVar 2) (mVar 1))) (mOrV (mUn isN (mVar 3)) (mBin leI (mVar 1) (mVar 3))) [some x, some (.int n), some (oD s.1), some (oD s.2)] bx = .ok (.val (.bl (loB s n && hiB s n))) bx := by
  obtain ⟨l, h⟩ := s
  have e1 : mOrV (mUn isN (mVar 2)) (mBin leI (mVar 2) (mVar 1)) [some x, some (.int n), some (oD l), some (oD h)] bx = .ok (.val (.bl (loB (l, h) n))) bx := by
    cases l with
    | none => exact ev_orVT rfl
    | some l => exact (ev_orVF (b := bx) rfl).trans rfl
  have e2 : mOrV (mUn isN (mVar 3)) (mBin leI (mVar 1) (mVar 3)) [some x, some (.int n), some (oD l), some (oD h)] bx = .ok (.val (.bl (hiB (l, h) n))) bx := by
    cases h with
    | none => exact ev_orVT rfl
    | some h => exact (ev_orVF (b := bx) rfl).trans rfl
  cases q : loB (l, h) n with
  | true => rw [q] at e1; rw [ev_andVT e1, e2]; rfl
  | false => rw [q] at e1; rw [ev_andVF e1]; rfl
def inB (s : Stretch) (n : Int) : Bool := loB s n && hiB s n
theorem bls_map {α : Type} (f : α → Bool) : ∀ as : List α, D.bls (as.map fun a => .bl (f a)) = some (as.map f)
  | [] => rfl
  | a :: as => by
    show (D.bls (as.map fun a => .bl (f a))).map (f a :: ·) = _
    rw [bls_map f as]; rfl
theorem c_has_number (CA : Ly) {x : D} {st : List Stretch} {n : Int} {bx : List D} (hx : x = .tup (st.map sD) ∨ x = .lst (st.map sD)) (hl : st.length ≤ sizeLine) : r_has_number CA [x, .int n] bx = .ok (.val (.bl (st.any fun s => inB s n))) bx := by
  refine run_rt ?_
  have e := comp_map (g := gTup [(gN 2), (gN 3)]) (ρ := [some x, some (.int n), none, none]) (bx := bx) (f := sD) (g' := fun s => .bl (inB s n)) (fun s => ⟨[some x, some (.int n), some (oD s.1), some (oD s.2)], rfl, hn_elt x n s bx⟩) st [] (by simpa using hl)
  have a1 : mComp (iSeq (mVar 0)) (([("low", 2), ("high", 3)] : List (PySem.Str × Nat)).map (·.2)) (gTup [(gN 2), (gN 3)]) mYes (mAndV (mOrV (mUn isN (mVar 2)) (mBin leI (mVar 2) (mVar 1))) (mOrV (mUn isN (mVar 3)) (mBin leI (mVar 1) (mVar 3)))) [some x, some (.int n), none, none] bx = .ok (.new (.lst (st.map fun s => .bl (inB s n)))) bx := by
    unfold mComp
    have a2 : iSeq (mVar 0) [some x, some (.int n), none, none] bx = .ok (st.map sD) bx := by rcases hx with rfl | rfl <;> rfl
    rw [a2]
    show (compL _ _ _ (st.map sD) [some x, some (.int n), none, none] bx []).bind _ = _
    rw [e]
    simp
  refine ev_ret (m := mCB (un1 anyD) _) ?_
  rw [show ([x, D.int n].map some ++ List.replicate (4 - [x, D.int n].length) none : Sl) = [some x, some (.int n), none, none] from rfl, ev_CB (ev_cons a1 ev_nil)]
  show (match D.bls (st.map fun s => .bl (inB s n)) with | some bs => OK (.bl (bs.any id)) bx | none => .stk) = _
  rw [bls_map]
  show OK (.bl ((st.map fun s => inB s n).any id)) bx = _
  rw [List.any_map]
  rfl
end K0

set_option Elab.async false
set_option linter.all false
set_option maxRecDepth 100000
set_option maxHeartbeats 4000000
/-! K7: outside, common: their plain meaning. -/
namespace K0
/-- what outside computes, from a low end on -/
def outL : Option Int → List Stretch → List Stretch
  | low, [] => [(low, none)]
  | low, (f, l) :: ps => (match f with
    | some f => [(low, some (f - 1))]
    | none => []) ++ (match l with
    | none => []
    | some l => outL (some (l + 1)) ps)
/-- what is in both of two stretches -/
def cut2 (s t : Stretch) : Stretch := (hiLow s.1 t.1, loHigh s.2 t.2)
def commonL (a b : List Stretch) : List Stretch := joinL (a.flatMap fun s => (b.map (cut2 s)).filter fun e => !emp e.1 e.2)
theorem in_cut (s t : Stretch) (n : Int) : inS (cut2 s t) n ↔ inS s n ∧ inS t n := by
  obtain ⟨a, b⟩ := s
  obtain ⟨l, h⟩ := t
  cases a <;> cases b <;> cases l <;> cases h <;> simp_all [inS, cut2, hiLow, loHigh] <;> omega
theorem emp_ok (s : Stretch) : emp s.1 s.2 = false ↔ okS s := by
  obtain ⟨a, b⟩ := s
  cases a <;> cases b <;> simp [emp, okS]
theorem common_ok {a b : List Stretch} : Canon (commonL a b) ∧ ∀ n, mem (commonL a b) n ↔ mem a n ∧ mem b n := by
  have hv : ∀ s ∈ (a.flatMap fun s => (b.map (cut2 s)).filter fun e => !emp e.1 e.2), okS s := fun s hs => by
    obtain ⟨x, _, hx⟩ := List.mem_flatMap.mp hs
    have := (List.mem_filter.mp hx).2
    exact (emp_ok s).mp (by simpa using this)
  obtain ⟨h1, h2⟩ := join_ok hv
  refine ⟨h1, fun n => (h2 n).trans ⟨?_, ?_⟩⟩
  · rintro ⟨e, he, hi⟩
    obtain ⟨s, hs, hx⟩ := List.mem_flatMap.mp he
    obtain ⟨t, ht, rfl⟩ := List.mem_map.mp (List.mem_filter.mp hx).1
    obtain ⟨i1, i2⟩ := (in_cut s t n).mp hi
    exact ⟨⟨s, hs, i1⟩, ⟨t, ht, i2⟩⟩
  · rintro ⟨⟨s, hs, i1⟩, ⟨t, ht, i2⟩⟩
    have hi := (in_cut s t n).mpr ⟨i1, i2⟩
    have ho : okS (cut2 s t) := fun l h e1 e2 => by
      have a1 := hi.1 l e1
      have a2 := hi.2 h e2
      omega
    exact ⟨cut2 s t, List.mem_flatMap.mpr ⟨s, hs, List.mem_filter.mpr ⟨List.mem_map.mpr ⟨t, ht, rfl⟩, by simpa using (emp_ok _).mpr ho⟩⟩, hi⟩
/-- from low on -/
def from_ (low : Option Int) (n : Int) : Prop := ∀ l, low = some l → l ≤ n
theorem outL_mem : ∀ (ps : List Stretch) (low : Option Int), Canon ps → (∀ l, low = some l → ∀ s ∈ ps, ∃ c, s.1 = some c ∧ l ≤ c) → ∀ n, mem (outL low ps) n ↔ from_ low n ∧ ¬ mem ps n
  | [], low, _, _, n => by
    show mem [(low, none)] n ↔ _
    rw [mem_one]
    exact ⟨fun h => ⟨h.1, mem_nil n⟩, fun h => ⟨h.1, fun x hx => by cases hx⟩⟩
  | (f, l) :: ps, low, hc, hl, n => by
    have ok := hc.ok (f, l) (List.mem_cons_self ..)
    have gp := (List.pairwise_cons.mp hc.gaps).1
    have later_ : ∀ {n : Int}, mem ps n → ∃ b, l = some b ∧ b + 1 < n := fun {n} ⟨z, hz, hi⟩ => by
      obtain ⟨b, c, h1, h2, h3⟩ := gp z hz
      exact ⟨b, h1, Int.lt_of_lt_of_le h3 (hi.1 c h2)⟩
    rw [mem_cons]
    unfold outL
    rw [mem_append]
    constructor
    · rintro (h | h)
      · cases f with
        | none => exact absurd h (mem_nil n)
        | some f =>
          obtain ⟨h1, h2⟩ := (mem_one _ _).mp h
          have h3 := h2 (f - 1) rfl
          refine ⟨h1, fun q => q.elim (fun q => ?_) fun q => ?_⟩
          · have := q.1 f rfl; omega
          · obtain ⟨b, e, hb⟩ := later_ q
            have := ok f b rfl e
            omega
      · cases l with
        | none => exact absurd h (mem_nil n)
        | some l =>
          have ih := outL_mem ps (some (l + 1)) hc.tail (fun x hx s hs => by
            cases hx
            obtain ⟨b, c, h1, h2, h3⟩ := gp s hs
            cases h1
            exact ⟨c, h2, by omega⟩) n
          obtain ⟨h1, h2⟩ := ih.mp h
          have h3 := h1 (l + 1) rfl
          refine ⟨fun x hx => ?_, fun q => q.elim (fun q => ?_) h2⟩
          · obtain ⟨c, e, hxc⟩ := hl x hx (f, some l) (List.mem_cons_self ..)
            have := ok c l e rfl
            omega
          · have := q.2 l rfl; omega
    · rintro ⟨h1, h2⟩
      by_cases hf : ∃ x, f = some x ∧ n < x
      · obtain ⟨x, rfl, hx⟩ := hf
        refine .inl ((mem_one _ _).mpr ⟨h1, fun y hy => ?_⟩)
        cases hy; omega
      · cases l with
        | none =>
          exfalso
          exact h2 (.inl ⟨fun x hx => Int.not_lt.mp fun z => hf ⟨x, hx, z⟩, fun y hy => by cases hy⟩)
        | some l =>
          have hn : l < n := Int.not_le.mp fun z => h2 (.inl ⟨fun x hx => Int.not_lt.mp fun w => hf ⟨x, hx, w⟩, fun y hy => by cases hy; exact z⟩)
          refine .inr ((outL_mem ps (some (l + 1)) hc.tail (fun x hx s hs => by
            cases hx
            obtain ⟨b, c, h1, h2, h3⟩ := gp s hs
            cases h1
            exact ⟨c, h2, by omega⟩) n).mpr ⟨fun x hx => by cases hx; omega, fun q => h2 (.inr q)⟩)
end K0

set_option Elab.async false
set_option linter.all false
set_option maxRecDepth 100000
set_option maxHeartbeats 4000000
/-! K8: closed boxes, loops, plain facts about data. -/
namespace DL
open PySem
/-- the boxes know no box beyond them -/
abbrev Cb (bx : List D) : Prop := bx.all (D.cl bx.length) = true
mutual
theorem cl_mono {b b' : Nat} (h : b ≤ b') : ∀ d : D, d.cl b = true → d.cl b' = true
  | .tup ds, q => cls_mono h ds q
  | .lst ds, q => cls_mono h ds q
  | .rol ds, q => cls_mono h ds q
  | .ins _ _ ds, q => cls_mono h ds q
  | .dk _ ds, q => cls_mono h ds q
  | .dt _ ds, q => cls_mono h ds q
  | .box n, q => decide_eq_true (Nat.lt_of_lt_of_le (of_decide_eq_true q) h)
  | .non, _ => rfl
  | .bl _, _ => rfl
  | .int _, _ => rfl
  | .str _, _ => rfl
  | .adr _, _ => rfl
  | .ty _, _ => rfl
theorem cls_mono {b b' : Nat} (h : b ≤ b') : ∀ ds : List D, D.cls b ds = true → D.cls b' ds = true
  | [], _ => rfl
  | d :: ds, q => by
    have q' : (d.cl b && D.cls b ds) = true := q
    rw [Bool.and_eq_true] at q'
    show (d.cl b' && D.cls b' ds) = true
    rw [cl_mono h d q'.1, cls_mono h ds q'.2]; rfl
end
theorem Cb.snoc {bx : List D} {d : D} (h : Cb bx) (hd : d.cl (bx.length + 1) = true) : Cb (bx ++ [d]) := by
  unfold Cb at *
  rw [List.all_append, List.length_append, List.length_singleton, Bool.and_eq_true]
  refine ⟨?_, by simp [hd]⟩
  rw [List.all_eq_true] at *
  exact fun x hx => cl_mono (Nat.le_succ _) x (h x hx)
theorem Cb.head {d d' : D} {bx : List D} (h : Cb (d :: bx)) (hd : d'.cl (bx.length + 1) = true) : Cb (d' :: bx) := by
  unfold Cb at *
  rw [List.all_cons, List.length_cons, Bool.and_eq_true] at *
  exact ⟨hd, h.2⟩
section
variable {g : D → Sl → Option Sl} {m : MS} {d : D} {ds : List D} {ρ ρ1 ρ' : Sl} {bx b' : List D} {r : R}
theorem loop_nx (h1 : g d ρ = some ρ1) (h2 : m ρ1 bx = .nx ρ' b') : loop g m (d :: ds) ρ bx = loop g m ds ρ' b' := by
  show (match g d ρ with
    | none => OutS.stk
    | some ρ1 => (match m ρ1 bx with
      | .nx ρ' b' => loop g m ds ρ' b'
      | .ct ρ' b' => loop g m ds ρ' b'
      | .bk ρ' b' => .nx ρ' b'
      | o => o)) = _
  rw [h1]; simp only; rw [h2]
theorem loop_rt (h1 : g d ρ = some ρ1) (h2 : m ρ1 bx = .rt r b') : loop g m (d :: ds) ρ bx = .rt r b' := by
  show (match g d ρ with
    | none => OutS.stk
    | some ρ1 => (match m ρ1 bx with
      | .nx ρ' b' => loop g m ds ρ' b'
      | .ct ρ' b' => loop g m ds ρ' b'
      | .bk ρ' b' => .nx ρ' b'
      | o => o)) = _
  rw [h1]; simp only; rw [h2]
end
/-- a loop with an invariant -/
theorem loop_inv {α : Type} (f : α → D) {g : D → Sl → Option Sl} {m : MS} (P : List α → Sl → List D → Prop)
    (step : ∀ a as ρ bx, P (a :: as) ρ bx → ∃ ρ1 ρ' b', g (f a) ρ = some ρ1 ∧ m ρ1 bx = .nx ρ' b' ∧ P as ρ' b') :
    ∀ as ρ bx, P as ρ bx → ∃ ρ' b', loop g m (as.map f) ρ bx = .nx ρ' b' ∧ P [] ρ' b'
  | [], ρ, bx, h => ⟨ρ, bx, rfl, h⟩
  | a :: as, ρ, bx, h => by
    obtain ⟨ρ1, ρ2, b2, e1, e2, h2⟩ := step a as ρ bx h
    obtain ⟨ρ3, b3, e3, h3⟩ := loop_inv f P step as ρ2 b2 h2
    exact ⟨ρ3, b3, by rw [List.map_cons, loop_nx e1 e2, e3], h3⟩
/-- a loop that looks for one and returns -/
theorem loop_find {α : Type} (f : α → D) (p : α → Bool) (Sim : Sl → Prop) {g : D → Sl → Option Sl} {m : MS} {r : R} {bx : List D} :
    ∀ (as : List α) (_ : ∀ a ∈ as, ∀ ρ, Sim ρ → ∃ ρ1, g (f a) ρ = some ρ1 ∧ ((p a = true ∧ ∃ ρ2, m ρ1 bx = .nx ρ2 bx ∧ Sim ρ2) ∨ (p a = false ∧ m ρ1 bx = .rt r bx))) (ρ : Sl), Sim ρ →
    (as.all p = true ∧ ∃ ρ', loop g m (as.map f) ρ bx = .nx ρ' bx ∧ Sim ρ') ∨ (as.all p = false ∧ loop g m (as.map f) ρ bx = .rt r bx)
  | [], _, ρ, h => .inl ⟨rfl, ρ, rfl, h⟩
  | a :: as, hb, ρ, h => by
    obtain ⟨ρ1, e1, q⟩ := hb a (List.mem_cons_self ..) ρ h
    rcases q with ⟨hp, ρ2, e2, h2⟩ | ⟨hp, e2⟩
    · rcases loop_find f p Sim as (fun x hx => hb x (List.mem_cons_of_mem _ hx)) ρ2 h2 with ⟨k, ρ3, e3, h3⟩ | ⟨k, e3⟩
      · exact .inl ⟨by rw [List.all_cons, hp, k]; rfl, ρ3, by rw [List.map_cons, loop_nx e1 e2, e3], h3⟩
      · exact .inr ⟨by rw [List.all_cons, hp, k]; rfl, by rw [List.map_cons, loop_nx e1 e2, e3]⟩
    · exact .inr ⟨by rw [List.all_cons, hp]; rfl, by rw [List.map_cons, loop_rt e1 e2]⟩
/-- a loop over a box that nothing touches -/
theorem loopB_go {xs : List D} {n : Nat} (Sim : Sl → Prop) {g : D → Sl → Option Sl} {m : MS} {bx : List D} (hx : bx[n]? = some (.lst xs))
    (hb : ∀ d ∈ xs, ∀ ρ, Sim ρ → ∃ ρ1 ρ2, g d ρ = some ρ1 ∧ m ρ1 bx = .nx ρ2 bx ∧ Sim ρ2) : ∀ (k i : Nat) (ρ : Sl), xs.length < k + i → i ≤ xs.length → Sim ρ → ∃ ρ', loopB g m n k i ρ bx = .nx ρ' bx ∧ Sim ρ'
  | 0, i, ρ, h, h', _ => by omega
  | k + 1, i, ρ, h, h', s => by
    show ∃ ρ', (match bx[n]? with
    | some (.lst xs) => (match xs[i]? with
      | none => OutS.nx ρ bx
      | some d => (match g d ρ with
        | none => .stk
        | some ρ' => (match m ρ' bx with
          | .nx ρ2 b2 => loopB g m n k (i + 1) ρ2 b2
          | .ct ρ2 b2 => loopB g m n k (i + 1) ρ2 b2
          | .bk ρ2 b2 => .nx ρ2 b2
          | o => o)))
    | _ => .stk) = .nx ρ' bx ∧ Sim ρ'
    rw [hx]
    simp only
    cases q : xs[i]? with
    | none => exact ⟨ρ, rfl, s⟩
    | some d =>
      obtain ⟨ρ1, ρ2, e1, e2, s2⟩ := hb d (List.mem_of_getElem? q) ρ s
      have hi : i < xs.length := (List.getElem?_eq_some_iff.mp q).1
      obtain ⟨ρ3, e3, s3⟩ := loopB_go Sim hx hb k (i + 1) ρ2 (by omega) hi s2
      refine ⟨ρ3, ?_, s3⟩
      simp only [e1, e2, e3]
/-- a comprehension with a condition, all of it values -/
theorem comp_filter {α : Type} (f : α → D) (p : α → Bool) (g' : α → D) (Sim : Sl → Prop) {g : D → Sl → Option Sl} {t : MB} {m : ME} {bx : List D} : ∀ (as : List α)
    (_ : ∀ a ∈ as, ∀ ρ, Sim ρ → ∃ ρ1, g (f a) ρ = some ρ1 ∧ Sim ρ1 ∧ t ρ1 bx = .ok (p a) bx ∧ (p a = true → m ρ1 bx = .ok (.val (g' a)) bx)) (ρ : Sl) (acc : List D), Sim ρ → acc.length + as.length ≤ sizeLine →
    compL g t m (as.map f) ρ bx acc = .ok (acc ++ (as.filter p).map g') bx
  | [], _, ρ, acc, _, hl => by simp [compL]
  | a :: as, h, ρ, acc, s, hl => by
    obtain ⟨ρ1, h1, s1, h2, h3⟩ := h a (List.mem_cons_self ..) ρ s
    rw [List.length_cons] at hl
    rw [List.map_cons]
    unfold compL
    rw [h1]
    simp only [h2, noX, Out.bind_ok]
    cases hp : p a with
    | true =>
      have hz : (acc ++ [g' a]).length + as.length ≤ sizeLine := by rw [List.length_append, List.length_singleton]; omega
      have e := comp_filter f p g' Sim as (fun x hx => h x (List.mem_cons_of_mem _ hx)) ρ (acc ++ [g' a]) s hz
      simp only [if_true, h3 hp, Out.bind_ok]
      rw [if_pos (by omega)]
      show compL g t m (as.map f) ρ bx (acc ++ [g' a]) = _
      rw [e, List.filter_cons, hp]
      simp
    | false =>
      have e := comp_filter f p g' Sim as (fun x hx => h x (List.mem_cons_of_mem _ hx)) ρ acc s (by omega)
      simp only [Bool.false_eq_true, if_false]
      rw [e, List.filter_cons, hp]
      simp
theorem body_nw {n k : Nat} {m : MS} {ds bx b ex : List D} {d : D} {j : Nat} (h : m (ds.map some ++ List.replicate (n - ds.length) none) bx = .rt (.val (.box j)) b) (hb : b.length = bx.length + 1) (hj : j = bx.length) (hd : b[j]? = some d) (hc : (b.take bx.length).all (D.cl bx.length) = true) (hcd : d.cl bx.length = true) (hk : ds.length = k := by rfl) : ar k (body n m) ds bx = .ok (.new d) (b.take bx.length) := by
  rw [ar_ok hk]
  unfold body
  rw [h]
  show leave bx.length (.val (.box j)) b = _
  unfold leave
  rw [if_neg (by omega), if_pos hc]
  simp only
  rw [if_neg (by omega), hd]
  simp only
  rw [if_pos hcd]
/-- a def that boxes something, and changes the first box -/
theorem run_rtX {n k : Nat} {m : MS} {ds bx b : List D} {d : D} (h : m (ds.map some ++ List.replicate (n - ds.length) none) bx = .rt (.val d) b) (hl : bx.length ≤ b.length) (hb : (b.take bx.length).all (D.cl bx.length) = true) (hd : d.cl bx.length = true) (hn : ∀ j, d ≠ .box j) (hk : ds.length = k := by rfl) : ar k (body n m) ds bx = .ok (.val d) (b.take bx.length) := by
  rw [ar_ok hk]
  unfold body
  rw [h]
  show leave bx.length (.val d) b = _
  unfold leave
  by_cases e : b.length = bx.length
  · rw [if_pos e, ← e, List.take_length]
  · rw [if_neg e, if_pos hb]
    cases d with
    | box j => exact absurd rfl (hn j)
    | _ => simp only [hd, if_true]
end DL

set_option Elab.async false
set_option linter.all false
set_option maxRecDepth 100000
set_option maxHeartbeats 4000000
/-! K9: common, outside. -/
namespace DL
open PySem
theorem ev_app {mo : ME} {ma : MA} {ρ : Sl} {bx b : List D} {n : Nat} {xs : List D} {d : D} (ho : mo ρ bx = .ok (.val (.box n)) bx) (hx : bx[n]? = some (.lst xs)) (ha : ma ρ bx = .ok [d] b) (hx' : b[n]? = some (.lst xs)) (hl : xs.length < sizeLine) : mExpr (mBm appD mo ma) ρ bx = .nx ρ (b.set n (.lst (xs ++ [d]))) := by
  refine ev_expr (r := .val .non) ?_
  unfold mBm
  rw [ho]
  have e1 : D.sL bx (.box n) = some xs := by
    show (match bx[n]? with | some (.lst ds) => some ds | _ => none) = _
    rw [hx]
  simp only [Out.bind_ok]
  show (match D.sL bx (.box n) with | some _ => _ | none => _) = _
  rw [e1]
  simp only [ha, Out.bind_ok]
  show (match b[n]? with | some (.lst xs) => if xs.length < sizeLine then OK .non (b.set n (.lst (xs ++ [d]))) else .stk | _ => .stk) = _
  rw [hx']
  simp only
  rw [if_pos hl]
end DL
namespace K0
open PySem DL
theorem get_end (B : List D) (x : D) : (B ++ [x])[B.length]? = some x := by simp
theorem set_end (B : List D) (x y : D) : (B ++ [x]).set B.length y = B ++ [y] := by simp
section
variable {CA : Ly} {B : List D} {x y : D}
def m_cin (CA : Ly) : MS := mSeq (mAsg (mTup (aCons (mF (r_higher_low CA) (aCons (mVar 3) (aCons (mVar 5) aNil))) (aCons (mF (r_lower_high CA) (aCons (mVar 4) (aCons (mVar 6) aNil))) aNil))) (gN 7))
    (mIfS (mNot (mTest (mF (r_is_empty CA) (aCons (mBin ixD (mVar 7) (mC (.int 0))) (aCons (mBin ixD (mVar 7) (mC (.int 1))) aNil))))) (mExpr (mBm appD (mVar 2) (aCons (mVar 7) aNil))) mSkip)
theorem m_common_eq (CA : Ly) : m_common CA = mSeq (mBox (mLst aNil) 2) (mSeq (mFor (iSeq (mVar 0)) (gTup [(gN 3), (gN 4)]) (mFor (iSeq (mVar 1)) (gTup [(gN 5), (gN 6)]) (m_cin CA))) (mRet (mF (r_joined CA) (aCons (mVar 2) aNil)))) := rfl
theorem cin_ok (CA : Ly) {s t : Stretch} {acc : List Stretch} {o : Option D} (hl : acc.length < sizeLine) :
    m_cin CA [some x, some y, some (.box B.length), some (oD s.1), some (oD s.2), some (oD t.1), some (oD t.2), o] (B ++ [D.lst (acc.map sD)]) =
    .nx [some x, some y, some (.box B.length), some (oD s.1), some (oD s.2), some (oD t.1), some (oD t.2), some (sD (cut2 s t))] (B ++ [D.lst ((acc ++ [cut2 s t].filter fun e => !emp e.1 e.2).map sD)]) := by
  have e1 : mF (r_higher_low CA) (aCons (mVar 3) (aCons (mVar 5) aNil)) [some x, some y, some (.box B.length), some (oD s.1), some (oD s.2), some (oD t.1), some (oD t.2), o] (B ++ [D.lst (acc.map sD)]) = .ok (.val (oD (hiLow s.1 t.1))) (B ++ [D.lst (acc.map sD)]) :=
    (ev_F (ev_cons (r := .val (oD s.1)) rfl (ev_cons (r := .val (oD t.1)) rfl ev_nil))).trans (c_higher_low CA s.1 t.1 _)
  have e2 : mF (r_lower_high CA) (aCons (mVar 4) (aCons (mVar 6) aNil)) [some x, some y, some (.box B.length), some (oD s.1), some (oD s.2), some (oD t.1), some (oD t.2), o] (B ++ [D.lst (acc.map sD)]) = .ok (.val (oD (loHigh s.2 t.2))) (B ++ [D.lst (acc.map sD)]) :=
    (ev_F (ev_cons (r := .val (oD s.2)) rfl (ev_cons (r := .val (oD t.2)) rfl ev_nil))).trans (c_lower_high CA s.2 t.2 _)
  have e3 : mTup (aCons (mF (r_higher_low CA) (aCons (mVar 3) (aCons (mVar 5) aNil))) (aCons (mF (r_lower_high CA) (aCons (mVar 4) (aCons (mVar 6) aNil))) aNil)) [some x, some y, some (.box B.length), some (oD s.1), some (oD s.2), some (oD t.1), some (oD t.2), o] (B ++ [D.lst (acc.map sD)]) = .ok (.val (sD (cut2 s t))) (B ++ [D.lst (acc.map sD)]) := by
    unfold mTup
    rw [ev_cons e1 (ev_cons e2 ev_nil)]
    rfl
  have e4 := ev_asg (i := 7) e3
  unfold m_cin
  rw [ev_seq e4]
  show mIfS _ _ _ [some x, some y, some (.box B.length), some (oD s.1), some (oD s.2), some (oD t.1), some (oD t.2), some (sD (cut2 s t))] (B ++ [D.lst (acc.map sD)]) = _
  have e5 : mNot (mTest (mF (r_is_empty CA) (aCons (mBin ixD (mVar 7) (mC (.int 0))) (aCons (mBin ixD (mVar 7) (mC (.int 1))) aNil)))) [some x, some y, some (.box B.length), some (oD s.1), some (oD s.2), some (oD t.1), some (oD t.2), some (sD (cut2 s t))] (B ++ [D.lst (acc.map sD)]) = .ok (!emp (cut2 s t).1 (cut2 s t).2) (B ++ [D.lst (acc.map sD)]) :=
    ev_not (ev_test ((ev_F (ev_cons (r := .val (oD (cut2 s t).1)) rfl (ev_cons (r := .val (oD (cut2 s t).2)) rfl ev_nil))).trans (c_is_empty CA _ _ _)))
  cases q : emp (cut2 s t).1 (cut2 s t).2 with
  | true =>
    rw [q] at e5
    rw [ev_ifF e5, List.filter_cons, q]
    simp [mSkip]
  | false =>
    rw [q] at e5
    rw [ev_ifT e5, List.filter_cons, q]
    rw [ev_app (n := B.length) (xs := acc.map sD) (d := sD (cut2 s t)) (b := B ++ [D.lst (acc.map sD)]) rfl (get_end ..) rfl (get_end ..) (by simpa using hl), set_end]
    simp
theorem cin_loop (CA : Ly) (s : Stretch) : ∀ (ts acc : List Stretch) (o5 o6 o7 : Option D), acc.length + ts.length ≤ sizeLine →
    ∃ p5 p6 p7, loop (gTup [(gN 5), (gN 6)]) (m_cin CA) (ts.map sD) [some x, some y, some (.box B.length), some (oD s.1), some (oD s.2), o5, o6, o7] (B ++ [D.lst (acc.map sD)]) = .nx [some x, some y, some (.box B.length), some (oD s.1), some (oD s.2), p5, p6, p7] (B ++ [D.lst ((acc ++ (ts.map (cut2 s)).filter fun e => !emp e.1 e.2).map sD)])
  | [], acc, o5, o6, o7, _ => ⟨o5, o6, o7, by simp [loop]⟩
  | t :: ts, acc, o5, o6, o7, hl => by
    rw [List.length_cons] at hl
    have h2 : (acc ++ [cut2 s t].filter fun e => !emp e.1 e.2).length + ts.length ≤ sizeLine := by
      have : ([cut2 s t].filter fun e => !emp e.1 e.2).length ≤ 1 := List.length_filter_le ..
      rw [List.length_append]; omega
    obtain ⟨p5, p6, p7, e⟩ := cin_loop CA s ts (acc ++ [cut2 s t].filter fun e => !emp e.1 e.2) (some (oD t.1)) (some (oD t.2)) (some (sD (cut2 s t))) h2
    refine ⟨p5, p6, p7, ?_⟩
    rw [List.map_cons, loop_nx (ρ1 := [some x, some y, some (.box B.length), some (oD s.1), some (oD s.2), some (oD t.1), some (oD t.2), o7]) rfl (cin_ok CA (by omega)), e, List.append_assoc]
    congr 6
    rw [← List.filter_append]
    rfl
theorem cout_loop (CA : Ly) {ts : List Stretch} (hy : y.it = some (ts.map sD)) : ∀ (ss acc : List Stretch) (o3 o4 o5 o6 o7 : Option D), acc.length + ss.length * ts.length ≤ sizeLine →
    ∃ p3 p4 p5 p6 p7, loop (gTup [(gN 3), (gN 4)]) (mFor (iSeq (mVar 1)) (gTup [(gN 5), (gN 6)]) (m_cin CA)) (ss.map sD) [some x, some y, some (.box B.length), o3, o4, o5, o6, o7] (B ++ [D.lst (acc.map sD)]) = .nx [some x, some y, some (.box B.length), p3, p4, p5, p6, p7] (B ++ [D.lst ((acc ++ ss.flatMap fun s => (ts.map (cut2 s)).filter fun e => !emp e.1 e.2).map sD)])
  | [], acc, o3, o4, o5, o6, o7, _ => ⟨o3, o4, o5, o6, o7, by simp [loop]⟩
  | s :: ss, acc, o3, o4, o5, o6, o7, hl => by
    rw [List.length_cons, Nat.succ_mul] at hl
    obtain ⟨p5, p6, p7, e⟩ := cin_loop (x := x) (y := y) (B := B) CA s ts acc o5 o6 o7 (by omega)
    have h2 : (acc ++ (ts.map (cut2 s)).filter fun e => !emp e.1 e.2).length + ss.length * ts.length ≤ sizeLine := by
      have : ((ts.map (cut2 s)).filter fun e => !emp e.1 e.2).length ≤ ts.length := by
        refine Nat.le_trans (List.length_filter_le ..) ?_
        simp
      rw [List.length_append]; omega
    obtain ⟨q3, q4, q5, q6, q7, e2⟩ := cout_loop CA hy ss (acc ++ (ts.map (cut2 s)).filter fun e => !emp e.1 e.2) (some (oD s.1)) (some (oD s.2)) p5 p6 p7 h2
    refine ⟨q3, q4, q5, q6, q7, ?_⟩
    have e3 : mFor (iSeq (mVar 1)) (gTup [(gN 5), (gN 6)]) (m_cin CA) [some x, some y, some (.box B.length), some (oD s.1), some (oD s.2), o5, o6, o7] (B ++ [D.lst (acc.map sD)]) = .nx [some x, some y, some (.box B.length), some (oD s.1), some (oD s.2), p5, p6, p7] (B ++ [D.lst ((acc ++ (ts.map (cut2 s)).filter fun e => !emp e.1 e.2).map sD)]) := by
      unfold mFor iSeq
      show liftE (match y.it with | some ds => .ok ds (B ++ [D.lst (acc.map sD)]) | none => .stk) _ _ = _
      rw [hy]
      exact e
    rw [List.map_cons, loop_nx (ρ1 := [some x, some y, some (.box B.length), some (oD s.1), some (oD s.2), o5, o6, o7]) rfl e3, e2, List.flatMap_cons, List.append_assoc]
theorem c_common (CA : Ly) {bx : List D} {a b : List Stretch} (hx : x.it = some (a.map sD)) (hy : y.it = some (b.map sD)) (hl : a.length * b.length ≤ sizeLine) (hb : Cb bx) : r_common CA [x, y] bx = .ok (.val (.tup ((commonL a b).map sD))) bx := by
  obtain ⟨p3, p4, p5, p6, p7, e⟩ := cout_loop (x := x) (y := y) (B := bx) CA hy a [] none none none none none (by simpa using hl)
  rw [List.nil_append] at e
  generalize ht : (a.flatMap fun s => (b.map (cut2 s)).filter fun e => !emp e.1 e.2) = tot at e
  refine run_rtC (ex := [D.lst (tot.map sD)]) ?_ hb (cls_s _ _) (fun j z => by cases z)
  rw [m_common_eq]
  have a1 : mBox (mLst aNil) 2 [some x, some y, none, none, none, none, none, none] bx = .nx [some x, some y, some (.box bx.length), none, none, none, none, none] (bx ++ [.lst []]) := ev_box (m := mLst aNil) (i := 2) (d := .lst []) (b := bx) rfl
  rw [show ([x, y].map some ++ List.replicate (8 - [x, y].length) none : Sl) = [some x, some y, none, none, none, none, none, none] from rfl, ev_seq a1]
  have a2 : mFor (iSeq (mVar 0)) (gTup [(gN 3), (gN 4)]) (mFor (iSeq (mVar 1)) (gTup [(gN 5), (gN 6)]) (m_cin CA)) [some x, some y, some (.box bx.length), none, none, none, none, none] (bx ++ [.lst []]) = .nx [some x, some y, some (.box bx.length), p3, p4, p5, p6, p7] (bx ++ [D.lst (tot.map sD)]) := by
    unfold mFor
    show liftE (match x.it with | some ds => .ok ds (bx ++ [.lst []]) | none => .stk) _ _ = _
    rw [hx]
    exact e
  rw [ev_seq a2]
  refine ev_ret ?_
  have tl : tot.length ≤ a.length * b.length := by
    rw [← ht]
    clear ht e a1 a2 hl hx hy
    induction a with
    | nil => simp
    | cons s a ih =>
      rw [List.flatMap_cons, List.length_append, List.length_cons, Nat.succ_mul]
      have : ((b.map (cut2 s)).filter fun e => !emp e.1 e.2).length ≤ b.length := Nat.le_trans (List.length_filter_le ..) (by simp)
      omega
  have ec : commonL a b = joinL tot := by unfold commonL; rw [ht]
  rw [ec]
  rw [ev_F (mf := r_joined CA) (ev_cons (m := mVar 2) (r := .val (.box bx.length)) (b := bx ++ [D.lst (tot.map sD)]) rfl ev_nil)]
  exact c_joinedB CA (st := tot) (by omega) (hb.snoc (cls_s _ _))
/-! ### outside -/
def m_ob : MS := mSeq (mIfS (mTest (mUn notN (mVar 3))) (mExpr (mBm appD (mVar 1) (aCons (mTup (aCons (mVar 2) (aCons (mBin subI (mVar 3) (mC (.int 1))) aNil))) aNil))) mSkip)
   (mSeq (mIfS (mTest (mUn isN (mVar 4))) (mRet (mCB (un1 tupD) (aCons (mVar 1) aNil))) mSkip)
   (mAsg (mBin addI (mVar 4) (mC (.int 1))) (gN 2)))
theorem m_outside_eq (CA : Ly) : m_outside CA = mSeq (mBox (mLst aNil) 1) (mSeq (mAsg (mC .non) (gN 2)) (mSeq (mFor (iSeq (mVar 0)) (gTup [(gN 3), (gN 4)]) m_ob) (mRet (mCB (un1 tupD) (aCons (mBin addL (mVar 1) (mLst (aCons (mTup (aCons (mVar 2) (aCons (mC .non) aNil))) aNil))) aNil))))) := rfl
def hd1 (low : Option Int) : Option Int → List Stretch
  | some f => [(low, some (f - 1))]
  | none => []
theorem outL_none (low f : Option Int) (ps : List Stretch) : outL low ((f, none) :: ps) = hd1 low f := by cases f <;> simp [outL, hd1]
theorem outL_some (low f : Option Int) (l : Int) (ps : List Stretch) : outL low ((f, some l) :: ps) = hd1 low f ++ outL (some (l + 1)) ps := by cases f <;> simp [outL, hd1]
theorem ob_first {low : Option Int} {acc : List Stretch} {f l : Option Int} (hl : acc.length < sizeLine) :
    mIfS (mTest (mUn notN (mVar 3))) (mExpr (mBm appD (mVar 1) (aCons (mTup (aCons (mVar 2) (aCons (mBin subI (mVar 3) (mC (.int 1))) aNil))) aNil))) mSkip [some x, some (.box B.length), some (oD low), some (oD f), some (oD l)] (B ++ [D.lst (acc.map sD)]) =
    .nx [some x, some (.box B.length), some (oD low), some (oD f), some (oD l)] (B ++ [D.lst ((acc ++ hd1 low f).map sD)]) := by
  cases f with
  | none =>
    rw [ev_ifF (b := B ++ [D.lst (acc.map sD)]) rfl]
    simp [mSkip, hd1]
  | some f =>
    rw [ev_ifT (b := B ++ [D.lst (acc.map sD)]) rfl, ev_app (n := B.length) (xs := acc.map sD) (d := sD (low, some (f - 1))) (b := B ++ [D.lst (acc.map sD)]) rfl (get_end ..) rfl (get_end ..) (by simpa using hl), set_end]
    simp [hd1]
theorem tup_box {acc : List Stretch} : tupD (.box B.length) (B ++ [D.lst (acc.map sD)]) = .ok (.val (.tup (acc.map sD))) (B ++ [D.lst (acc.map sD)]) := by
  show (match (match (B ++ [D.lst (acc.map sD)])[B.length]? with | some (.lst ds) => some ds | _ => none) with | some ds => OK (.tup ds) (B ++ [D.lst (acc.map sD)]) | none => .stk) = _
  rw [get_end]
theorem ob_loop : ∀ (ps acc : List Stretch) (low : Option Int) (o3 o4 : Option D), acc.length + ps.length < sizeLine →
    (∃ low' acc' p3 p4, loop (gTup [(gN 3), (gN 4)]) m_ob (ps.map sD) [some x, some (.box B.length), some (oD low), o3, o4] (B ++ [D.lst (acc.map sD)]) = .nx [some x, some (.box B.length), some (oD low'), p3, p4] (B ++ [D.lst (acc'.map sD)]) ∧ acc' ++ [(low', none)] = acc ++ outL low ps ∧ acc'.length ≤ acc.length + ps.length) ∨
    (∃ acc', loop (gTup [(gN 3), (gN 4)]) m_ob (ps.map sD) [some x, some (.box B.length), some (oD low), o3, o4] (B ++ [D.lst (acc.map sD)]) = .rt (.val (.tup (acc'.map sD))) (B ++ [D.lst (acc'.map sD)]) ∧ acc' = acc ++ outL low ps)
  | [], acc, low, o3, o4, _ => .inl ⟨low, acc, o3, o4, rfl, rfl, by simp⟩
  | (f, l) :: ps, acc, low, o3, o4, hl => by
    rw [List.length_cons] at hl
    have e1 := ob_first (x := x) (B := B) (low := low) (acc := acc) (f := f) (l := l) (by omega)
    have zl : (hd1 low f).length ≤ 1 := by cases f <;> simp [hd1]
    cases l with
    | none =>
      refine .inr ⟨acc ++ hd1 low f, ?_, by rw [outL_none]⟩
      rw [List.map_cons]
      refine loop_rt (ρ1 := [some x, some (.box B.length), some (oD low), some (oD f), some (oD none)]) rfl ?_
      unfold m_ob
      rw [ev_seq e1]
      refine ev_seqR ?_
      rw [ev_ifT (b := B ++ [D.lst ((acc ++ hd1 low f).map sD)]) rfl]
      exact ev_ret ((ev_CB (ev_cons (r := .val (.box B.length)) rfl ev_nil)).trans tup_box)
    | some l =>
      have e3 : m_ob [some x, some (.box B.length), some (oD low), some (oD f), some (oD (some l))] (B ++ [D.lst (acc.map sD)]) = .nx [some x, some (.box B.length), some (oD (some (l + 1))), some (oD f), some (oD (some l))] (B ++ [D.lst ((acc ++ hd1 low f).map sD)]) := by
        unfold m_ob
        rw [ev_seq e1]
        rfl
      have e4 := loop_nx (g := gTup [(gN 3), (gN 4)]) (d := sD (f, some l)) (ds := ps.map sD) (ρ := [some x, some (.box B.length), some (oD low), o3, o4]) rfl e3
      rw [List.map_cons, e4, outL_some]
      rcases ob_loop ps (acc ++ hd1 low f) (some (l + 1)) (some (oD f)) (some (oD (some l))) (by rw [List.length_append]; omega) with ⟨low', acc', p3, p4, h1, h2, h3⟩ | ⟨acc', h1, h2⟩
      · exact .inl ⟨low', acc', p3, p4, h1, by rw [h2, List.append_assoc], by rw [List.length_append] at h3; simp only [List.length_cons]; omega⟩
      · exact .inr ⟨acc', h1, by rw [h2, List.append_assoc]⟩
theorem c_outside (CA : Ly) {bx : List D} {a : List Stretch} (hx : x.it = some (a.map sD)) (hl : a.length < sizeLine) (hb : Cb bx) : r_outside CA [x] bx = .ok (.val (.tup ((outL none a).map sD))) bx := by
  have a1 : mBox (mLst aNil) 1 [some x, none, none, none, none] bx = .nx [some x, some (.box bx.length), none, none, none] (bx ++ [.lst []]) := ev_box (m := mLst aNil) (i := 1) (d := .lst []) (b := bx) rfl
  have a2 : ∀ o : OutS, loop (gTup [(gN 3), (gN 4)]) m_ob (a.map sD) [some x, some (.box bx.length), some .non, none, none] (bx ++ [.lst []]) = o → mFor (iSeq (mVar 0)) (gTup [(gN 3), (gN 4)]) m_ob [some x, some (.box bx.length), some .non, none, none] (bx ++ [.lst []]) = o := fun o h => by
    unfold mFor
    show liftE (match x.it with | some ds => .ok ds (bx ++ [.lst []]) | none => .stk) _ _ = _
    rw [hx]
    exact h
  have a3 : mAsg (mC .non) (gN 2) [some x, some (.box bx.length), none, none, none] (bx ++ [.lst []]) = .nx [some x, some (.box bx.length), some .non, none, none] (bx ++ [.lst []]) := rfl
  rcases ob_loop (x := x) (B := bx) a [] none none none (by simpa using hl) with ⟨low', acc', p3, p4, h1, h2, h3⟩ | ⟨acc', h1, h2⟩
  · refine run_rtC (ex := [D.lst (acc'.map sD)]) ?_ hb (cls_s _ _) (fun j z => by cases z)
    rw [m_outside_eq, show ([x].map some ++ List.replicate (5 - [x].length) none : Sl) = [some x, none, none, none, none] from rfl, ev_seq a1, ev_seq a3, ev_seq (a2 _ h1)]
    refine ev_ret ?_
    rw [List.nil_append] at h2
    rw [← h2]
    have a5 : mBin addL (mVar 1) (mLst (aCons (mTup (aCons (mVar 2) (aCons (mC .non) aNil))) aNil)) [some x, some (.box bx.length), some (oD low'), p3, p4] (bx ++ [D.lst (acc'.map sD)]) = .ok (.new (.lst ((acc' ++ [(low', none)]).map sD))) (bx ++ [D.lst (acc'.map sD)]) := by
      have a6 : mLst (aCons (mTup (aCons (mVar 2) (aCons (mC .non) aNil))) aNil) [some x, some (.box bx.length), some (oD low'), p3, p4] (bx ++ [D.lst (acc'.map sD)]) = .ok (.new (.lst [sD (low', none)])) (bx ++ [D.lst (acc'.map sD)]) := rfl
      rw [ev_bin (r := .val (.box bx.length)) (b := bx ++ [D.lst (acc'.map sD)]) rfl a6]
      show (match (match (bx ++ [D.lst (acc'.map sD)])[bx.length]? with | some (.lst ds) => some ds | _ => none), some [sD (low', none)] with
        | some xs, some ys => if xs.length + ys.length ≤ sizeLine then Out.ok (R.new (.lst (xs ++ ys))) (bx ++ [D.lst (acc'.map sD)]) else .stk
        | _, _ => .stk) = _
      rw [get_end]
      simp only [List.length_map, List.length_singleton, List.map_append, List.map_cons, List.map_nil]
      rw [if_pos (by simp at h3; omega)]
    exact (ev_CB (ev_cons a5 ev_nil)).trans rfl
  · refine run_rtC (ex := [D.lst (acc'.map sD)]) ?_ hb (cls_s _ _) (fun j z => by cases z)
    rw [m_outside_eq, show ([x].map some ++ List.replicate (5 - [x].length) none : Sl) = [some x, none, none, none, none] from rfl, ev_seq a1, ev_seq a3]
    rw [List.nil_append] at h2
    rw [← h2]
    exact ev_seqR (a2 _ h1)
end
end K0

set_option Elab.async false
set_option linter.all false
set_option maxRecDepth 100000
set_option maxHeartbeats 4000000
/-! K10: the class of sets. -/
namespace DL
open PySem
theorem ev_FL {i : Nat} {u : Addr} {mf : MF} {a : MA} {ρ : Sl} {bx : List D} (h : ρ[i]? = some (some (.adr u))) : mFL i u mf a ρ bx = mF mf a ρ bx := by
  unfold mFL
  rw [h]
  simp only [if_true]
end DL
namespace K0
open PySem DL
abbrev rD (st : List Stretch) : D := .ins 0 ["parts"] [.tup (st.map sD)]
theorem cl_r (b : Nat) (st : List Stretch) : (rD st).cl b = true := by
  show (D.cls b (st.map sD) && true) = true
  rw [cls_s]; rfl
structure St (n : Nat) (a : List Stretch) : Prop where
  c : Canon a
  l : a.length ≤ n
theorem St.mono {n m : Nat} {a : List Stretch} (h : St n a) (hm : n ≤ m) : St m a := ⟨h.c, Nat.le_trans h.l hm⟩
theorem jlen : ∀ (zs acc : List Stretch), (zs.foldl jstep acc).length ≤ acc.length + zs.length
  | [], acc => by simp
  | s :: zs, acc => by
    have h1 := jlen zs (jstep acc s)
    have h2 := jstep_len acc s
    rw [List.foldl_cons, List.length_cons]
    omega
theorem joinL_len (st : List Stretch) : (joinL st).length ≤ st.length := by
  have h := jlen (sorted st) []
  have : (sorted st).length = st.length := by unfold sorted; simp
  unfold joinL
  simp only [List.length_nil] at h
  omega
section
variable {CA : Ly} {bx : List D} {n m : Nat} {a b st : List Stretch}
theorem c_init (CA : Ly) {x : D} (hx : x = .lst (st.map sD) ∨ x = .tup (st.map sD)) (hl : st.length ≤ sizeLine) (hb : Cb bx) : mkD 0 (r_Ranges___init__ CA) [x] bx = .ok (.new (rD (joinL st))) bx := by
  have hb1 : Cb (bx ++ [.ins 0 [] []]) := hb.snoc rfl
  have e1 := c_joined CA hx hl hb1
  have e2 : r_Ranges___init__ CA [.box bx.length, x] (bx ++ [.ins 0 [] []]) = .ok (.val .non) (bx ++ [rD (joinL st)]) := by
    refine (ar_ok rfl).trans (body_nx (ρ := [some (.box bx.length), some x]) ?_ (by simp))
    show m_Ranges___init__ CA [some (.box bx.length), some x] (bx ++ [.ins 0 [] []]) = _
    unfold m_Ranges___init__ mSetF
    rw [ev_F (ev_cons (r := .val x) (b := bx ++ [.ins 0 [] []]) rfl ev_nil)]
    simp only [R.d]
    rw [e1]
    have e3 : setF "parts" [0] (.box bx.length) (.tup ((joinL st).map sD)) (bx ++ [.ins 0 [] []]) = some (bx ++ [rD (joinL st)]) := by
      show (match (bx ++ [D.ins 0 [] []])[bx.length]? with
        | some (.ins c ns ds) => if c ∈ [0] ∧ ns.length < 1000 then some ((bx ++ [D.ins 0 [] []]).set bx.length (.ins c (putFD "parts" (.tup ((joinL st).map sD)) ns ds).1 (putFD "parts" (.tup ((joinL st).map sD)) ns ds).2)) else none
        | _ => none) = _
      rw [get_end]
      simp only
      rw [if_pos (by simp), set_end]
      rfl
    show (match setF "parts" [0] (.box bx.length) (.tup ((joinL st).map sD)) (bx ++ [.ins 0 [] []]) with | some b2 => OutS.nx _ b2 | none => .stk) = _
    rw [e3]
  have t : (bx ++ [rD (joinL st)]).take bx.length = bx := by simp
  unfold mkD
  rw [e2]
  show (if (bx ++ [rD (joinL st)]).length = bx.length + 1 ∧ ((bx ++ [rD (joinL st)]).take bx.length).all (D.cl bx.length) = true then (match (bx ++ [rD (joinL st)])[bx.length]? with | some d => if d.cl bx.length = true then Out.ok (R.new d) ((bx ++ [rD (joinL st)]).take bx.length) else .stk | none => .stk) else .stk) = _
  rw [t, if_pos ⟨by simp, hb⟩, get_end]
  simp only
  rw [if_pos (cl_r ..)]
theorem fld_r (a : List Stretch) (bx : List D) : fldD "parts" [0] (rD a) bx = .ok (.val (.tup (a.map sD))) bx := by
  simp [fldD, D.obj, getF]
/-- a set made of stretches -/
theorem made_of {x : D} (hx : x = .lst (st.map sD) ∨ x = .tup (st.map sD)) (hl : st.length ≤ n) (hn : n ≤ 1000000) (hv : ∀ s ∈ st, okS s) (hb : Cb bx) : ∃ c, mkD 0 (r_Ranges___init__ CA) [x] bx = .ok (.new (rD c)) bx ∧ St n c ∧ ∀ k, mem c k ↔ mem st k :=
  ⟨_, c_init CA hx (by unfold sizeLine; omega) hb, ⟨(join_ok hv).1, Nat.le_trans (joinL_len st) hl⟩, (join_ok hv).2⟩
theorem o_of (CA : Ly) (ns : List Int) (hl : ns.length ≤ n) (hn : n ≤ 1000000) (hb : Cb bx) : ∃ c, r_Ranges_of CA (.adr (CA 0) :: ns.map .int) bx = .ok (.new (rD c)) bx ∧ St n c ∧ ∀ k, mem c k ↔ k ∈ ns := by
  obtain ⟨c, e, h1, h2⟩ := made_of (CA := CA) (bx := bx) (st := ns.map fun i => (some i, some i)) (n := n) (.inl rfl) (by simpa using hl) hn (by simp [okS]) hb
  refine ⟨c, ?_, h1, fun k => (h2 k).trans ?_⟩
  · show (if 1 ≤ (D.adr (CA 0) :: ns.map D.int).length ∧ (D.adr (CA 0) :: ns.map D.int).length - 1 ≤ sizeLine then g_Ranges_of CA ([.adr (CA 0)] ++ [.tup (ns.map .int)]) bx else .stk) = _
    rw [if_pos ⟨by simp, by simp; unfold sizeLine; omega⟩]
    refine body_rt (b := bx) ?_ rfl
    show m_Ranges_of CA [some (.adr (CA 0)), some (.tup (ns.map .int)), none] bx = _
    have e1 := comp_map (g := gN 2) (ρ := [some (.adr (CA 0)), some (.tup (ns.map .int)), none]) (bx := bx) (m := mTup (aCons (mVar 2) (aCons (mVar 2) aNil))) (f := D.int) (g' := fun i => sD (some i, some i)) (fun i => ⟨[some (.adr (CA 0)), some (.tup (ns.map .int)), some (.int i)], rfl, rfl⟩) ns [] (by simp; unfold sizeLine; omega)
    have a1 : mComp (iSeq (mVar 1)) (([("number", 2)] : List (PySem.Str × Nat)).map (·.2)) (gN 2) mYes (mTup (aCons (mVar 2) (aCons (mVar 2) aNil))) [some (.adr (CA 0)), some (.tup (ns.map .int)), none] bx = .ok (.new (.lst ((ns.map fun i => ((some i, some i) : Stretch)).map sD))) bx := by
      unfold mComp
      show (compL _ _ _ (ns.map D.int) [some (.adr (CA 0)), some (.tup (ns.map .int)), none] bx []).bind _ = _
      rw [e1]
      simp [List.map_map, Function.comp_def]
    refine ev_ret ?_
    rw [ev_FL rfl, ev_F (ev_cons a1 ev_nil)]
    exact e
  · constructor
    · rintro ⟨s, hs, hi⟩
      obtain ⟨i, hm, rfl⟩ := List.mem_map.mp hs
      have q1 := hi.1 i rfl
      have q2 := hi.2 i rfl
      rw [show k = i by omega]; exact hm
    · intro h
      exact ⟨(some k, some k), List.mem_map.mpr ⟨k, h, rfl⟩, fun x hx => by cases hx; omega, fun x hx => by cases hx; omega⟩
theorem o_between (CA : Ly) (l h : Option Int) (hb : Cb bx) : ∃ c, r_Ranges_between CA [.adr (CA 0), oD l, oD h] bx = .ok (.new (rD c)) bx ∧ St 1 c ∧ ∀ k, mem c k ↔ inS (l, h) k := by
  have tst : mTest (mF (r_is_empty CA) (aCons (mVar 1) (aCons (mVar 2) aNil))) [some (.adr (CA 0)), some (oD l), some (oD h)] bx = .ok (emp l h) bx := ev_test ((ev_F (ev_cons (r := .val (oD l)) rfl (ev_cons (r := .val (oD h)) rfl ev_nil))).trans (c_is_empty CA _ _ _))
  have arg : ∀ d, mIf (mTest (mF (r_is_empty CA) (aCons (mVar 1) (aCons (mVar 2) aNil)))) (mLst aNil) (mLst (aCons (mTup (aCons (mVar 1) (aCons (mVar 2) aNil))) aNil)) [some (.adr (CA 0)), some (oD l), some (oD h)] bx = .ok (.new d) bx → ∀ o, mkD 0 (r_Ranges___init__ CA) [d] bx = o → ∀ r, o = .ok r bx → r_Ranges_between CA [.adr (CA 0), oD l, oD h] bx = .ok r bx := fun d e o e2 r e3 => by
    refine (ar_ok rfl).trans (body_rt (b := bx) ?_ rfl)
    show m_Ranges_between CA [some (.adr (CA 0)), some (oD l), some (oD h)] bx = _
    refine ev_ret ?_
    rw [ev_FL rfl, ev_F (ev_cons e ev_nil)]
    exact e2.trans e3
  cases q : emp l h with
  | true =>
    obtain ⟨c, e, h1, h2⟩ := made_of (CA := CA) (bx := bx) (st := []) (n := 1) (x := .lst []) (.inl rfl) (by simp) (by omega) (by simp) hb
    refine ⟨c, arg (.lst []) ?_ _ e _ rfl, h1, fun k => (h2 k).trans ⟨fun h => (mem_nil k h).elim, fun z => ?_⟩⟩
    · unfold mIf
      rw [tst, q]
      rfl
    · cases l <;> cases h <;> simp_all [emp, inS]
      omega
  | false =>
    obtain ⟨c, e, h1, h2⟩ := made_of (CA := CA) (bx := bx) (st := [(l, h)]) (n := 1) (x := .lst [sD (l, h)]) (.inl rfl) (by simp) (by omega) (fun s hs => by rw [List.mem_singleton.mp hs]; exact (emp_ok (l, h)).mp q) hb
    refine ⟨c, arg (.lst [sD (l, h)]) ?_ _ e _ rfl, h1, fun k => (h2 k).trans (mem_one _ _)⟩
    unfold mIf
    rw [tst, q]
    rfl
theorem o_full (CA : Ly) (hb : Cb bx) : r_Ranges_full CA [.adr (CA 0)] bx = .ok (.new (rD [(none, none)])) bx := by
  refine (ar_ok rfl).trans (body_rt (b := bx) ?_ rfl)
  show m_Ranges_full CA [some (.adr (CA 0))] bx = _
  refine ev_ret ?_
  rw [ev_FL rfl, ev_F (ev_cons (r := .new (.lst [sD (none, none)])) (b := bx) rfl ev_nil)]
  have ej : joinL [(none, none)] = [(none, none)] := by simp [joinL, sorted, jstep]
  have e := c_init CA (st := [(none, none)]) (bx := bx) (x := .lst [sD (none, none)]) (.inl rfl) (by decide) hb
  rw [ej] at e
  exact e
theorem o_empty (CA : Ly) (hb : Cb bx) : r_Ranges_empty CA [.adr (CA 0)] bx = .ok (.new (rD [])) bx := by
  refine (ar_ok rfl).trans (body_rt (b := bx) ?_ rfl)
  show m_Ranges_empty CA [some (.adr (CA 0))] bx = _
  refine ev_ret ?_
  rw [ev_FL rfl, ev_F (ev_cons (r := .new (.lst [])) (b := bx) rfl ev_nil)]
  have ej : joinL [] = [] := by simp [joinL, sorted]
  have e := c_init CA (st := []) (bx := bx) (x := .lst []) (.inl rfl) (by decide) hb
  rw [ej] at e
  exact e
/-! ### the operators -/
theorem fld_v {i : Nat} {ρ : Sl} (h : ρ[i]? = some (some (rD a))) : mUn (fldD "parts" [0]) (mVar i) ρ bx = .ok (.val (.tup (a.map sD))) bx := by
  have e : mVar i ρ bx = .ok (.val (rD a)) bx := by unfold mVar; rw [h]
  rw [ev_un e]
  exact fld_r a bx
theorem o_or (CA : Ly) (hb : Cb bx) (ha : St n a) (hb' : St m b) (h : n + m ≤ 1000000) : ∃ c, noX (binC 0 (r_Ranges___or__ CA) (rD a) (rD b) bx) = .ok (.new (rD c)) bx ∧ St (n + m) c ∧ ∀ k, mem c k ↔ mem a k ∨ mem b k := by
  obtain ⟨c, e, h1, h2⟩ := made_of (CA := CA) (bx := bx) (st := a ++ b) (n := n + m) (x := .tup (a.map sD ++ b.map sD)) (.inr (by rw [List.map_append])) (by have := ha.l; have := hb'.l; rw [List.length_append]; omega) h (fun s hs => (List.mem_append.mp hs).elim (ha.c.ok s) (hb'.c.ok s)) hb
  refine ⟨c, ?_, h1, fun k => (h2 k).trans (mem_append _ _ _)⟩
  have e2 : r_Ranges___or__ CA [rD a, rD b] bx = .ok (.new (rD c)) bx := by
    refine (ar_ok rfl).trans (body_rt (b := bx) ?_ rfl)
    show m_Ranges___or__ CA [some (rD a), some (rD b)] bx = _
    refine ev_ret ?_
    have e3 : mBin addT (mUn (fldD "parts" [0]) (mVar 0)) (mUn (fldD "parts" [0]) (mVar 1)) [some (rD a), some (rD b)] bx = .ok (.val (.tup (a.map sD ++ b.map sD))) bx := by
      rw [ev_bin (fld_v (a := a) rfl) (fld_v (a := b) rfl)]
      show (if (a.map sD).length + (b.map sD).length ≤ sizeLine then OK (.tup (a.map sD ++ b.map sD)) bx else .stk) = _
      rw [if_pos (by have := ha.l; have := hb'.l; simp; unfold sizeLine; omega)]
    rw [ev_F (ev_cons e3 ev_nil)]
    exact e
  show noX (if 0 = 0 ∧ 0 = 0 then r_Ranges___or__ CA [rD a, rD b] bx else .stk) = _
  rw [if_pos ⟨rfl, rfl⟩, e2]
  rfl
theorem commonL_len (a b : List Stretch) : (commonL a b).length ≤ a.length * b.length := by
  refine Nat.le_trans (joinL_len _) ?_
  induction a with
  | nil => simp
  | cons s a ih =>
    rw [List.flatMap_cons, List.length_append, List.length_cons, Nat.succ_mul]
    have : ((b.map (cut2 s)).filter fun e => !emp e.1 e.2).length ≤ b.length := Nat.le_trans (List.length_filter_le ..) (by simp)
    omega
theorem outL_len : ∀ (a : List Stretch) (low : Option Int), (outL low a).length ≤ a.length + 1
  | [], low => by simp [outL]
  | (f, l) :: a, low => by
    have h := fun x => outL_len a (some x)
    unfold outL
    rw [List.length_append, List.length_cons]
    cases f <;> cases l <;> simp
    · exact Nat.le_succ_of_le (h _)
    · have := h (‹Int› + 1)
      omega
theorem of_parts {x : D} (hx : x = .tup (st.map sD)) (hl : st.length ≤ n) (hc : Canon st) (hn : n ≤ 1000000) (hb : Cb bx) : ∃ c, mkD 0 (r_Ranges___init__ CA) [x] bx = .ok (.new (rD c)) bx ∧ St n c ∧ ∀ k, mem c k ↔ mem st k := made_of (.inr hx) hl hn hc.ok hb
theorem mul_le {n m : Nat} {x y : Nat} (h1 : x ≤ n) (h2 : y ≤ m) : x * y ≤ n * m := Nat.mul_le_mul h1 h2
theorem o_and (CA : Ly) (hb : Cb bx) (ha : St n a) (hb' : St m b) (h : n * m ≤ 1000000) : ∃ c, noX (binC 0 (r_Ranges___and__ CA) (rD a) (rD b) bx) = .ok (.new (rD c)) bx ∧ St (n * m) c ∧ ∀ k, mem c k ↔ mem a k ∧ mem b k := by
  have hl := mul_le ha.l hb'.l
  obtain ⟨q1, q2⟩ := common_ok (a := a) (b := b)
  obtain ⟨c, e, h1, h2⟩ := of_parts (CA := CA) (bx := bx) (st := commonL a b) (n := n * m) rfl (Nat.le_trans (commonL_len a b) hl) q1 h hb
  refine ⟨c, ?_, h1, fun k => (h2 k).trans (q2 k)⟩
  have e2 : r_Ranges___and__ CA [rD a, rD b] bx = .ok (.new (rD c)) bx := by
    refine (ar_ok rfl).trans (body_rt (b := bx) ?_ rfl)
    show m_Ranges___and__ CA [some (rD a), some (rD b)] bx = _
    refine ev_ret ?_
    have e3 : mF (r_common CA) (aCons (mUn (fldD "parts" [0]) (mVar 0)) (aCons (mUn (fldD "parts" [0]) (mVar 1)) aNil)) [some (rD a), some (rD b)] bx = .ok (.val (.tup ((commonL a b).map sD))) bx :=
      (ev_F (ev_cons (fld_v (a := a) rfl) (ev_cons (fld_v (a := b) rfl) ev_nil))).trans (c_common CA rfl rfl (by unfold sizeLine; omega) hb)
    rw [ev_F (ev_cons e3 ev_nil)]
    exact e
  show noX (if 0 = 0 ∧ 0 = 0 then r_Ranges___and__ CA [rD a, rD b] bx else .stk) = _
  rw [if_pos ⟨rfl, rfl⟩, e2]
  rfl
/-- what is missing in another one -/
theorem less_ok (hc : Canon b) (k : Int) : mem (commonL a (outL none b)) k ↔ mem a k ∧ ¬ mem b k := by
  refine ((common_ok (a := a) (b := outL none b)).2 k).trans ?_
  rw [outL_mem b none hc (fun l hl => by cases hl) k]
  exact ⟨fun h => ⟨h.1, h.2.2⟩, fun h => ⟨h.1, ⟨fun x hx => (nomatch hx), h.2⟩⟩⟩
theorem e_less (CA : Ly) (hb : Cb bx) (ha : St n a) (hb' : St m b) (h : n * (m + 1) ≤ 1000000) (hm : m ≤ 1000000) : mF (r_common CA) (aCons (mUn (fldD "parts" [0]) (mVar 0)) (aCons (mF (r_outside CA) (aCons (mUn (fldD "parts" [0]) (mVar 1)) aNil)) aNil)) [some (rD a), some (rD b)] bx = .ok (.val (.tup ((commonL a (outL none b)).map sD))) bx := by
  have hl : a.length * (outL none b).length ≤ n * (m + 1) := mul_le ha.l (Nat.le_trans (outL_len b none) (Nat.succ_le_succ hb'.l))
  have e4 : mF (r_outside CA) (aCons (mUn (fldD "parts" [0]) (mVar 1)) aNil) [some (rD a), some (rD b)] bx = .ok (.val (.tup ((outL none b).map sD))) bx :=
    (ev_F (ev_cons (fld_v (a := b) rfl) ev_nil)).trans (c_outside CA rfl (by have := hb'.l; unfold sizeLine; omega) hb)
  exact (ev_F (ev_cons (fld_v (a := a) rfl) (ev_cons e4 ev_nil))).trans (c_common CA rfl rfl (by unfold sizeLine; omega) hb)
theorem o_sub (CA : Ly) (hb : Cb bx) (ha : St n a) (hb' : St m b) (h : n * (m + 1) ≤ 1000000) (hm : m ≤ 1000000) : ∃ c, noX (binC 0 (r_Ranges___sub__ CA) (rD a) (rD b) bx) = .ok (.new (rD c)) bx ∧ St (n * (m + 1)) c ∧ ∀ k, mem c k ↔ mem a k ∧ ¬ mem b k := by
  have hl : a.length * (outL none b).length ≤ n * (m + 1) := mul_le ha.l (Nat.le_trans (outL_len b none) (Nat.succ_le_succ hb'.l))
  obtain ⟨c, e, h1, h2⟩ := of_parts (CA := CA) (bx := bx) (st := commonL a (outL none b)) (n := n * (m + 1)) rfl (Nat.le_trans (commonL_len a _) hl) common_ok.1 h hb
  refine ⟨c, ?_, h1, fun k => (h2 k).trans (less_ok hb'.c k)⟩
  have e2 : r_Ranges___sub__ CA [rD a, rD b] bx = .ok (.new (rD c)) bx := by
    refine (ar_ok rfl).trans (body_rt (b := bx) ?_ rfl)
    show m_Ranges___sub__ CA [some (rD a), some (rD b)] bx = _
    refine ev_ret ?_
    rw [ev_F (ev_cons (e_less CA hb ha hb' h hm) ev_nil)]
    exact e
  show noX (if 0 = 0 ∧ 0 = 0 then r_Ranges___sub__ CA [rD a, rD b] bx else .stk) = _
  rw [if_pos ⟨rfl, rfl⟩, e2]
  rfl
/-! ### equality -/
theorem eqv_s1 (s t : Stretch) : PyData.eqv (sP s) (sP t) = decide (s = t) := by
  obtain ⟨a, b⟩ := s
  obtain ⟨c, d⟩ := t
  apply Bool.eq_iff_iff.mpr
  cases a <;> cases b <;> cases c <;> cases d <;> simp [sP, oP, PyData.eqv, PyData.eqvAll]
theorem eqv_st : ∀ a b : List Stretch, PyData.eqvAll (a.map sP) (b.map sP) = decide (a = b)
  | [], [] => by simp [PyData.eqvAll]
  | [], _ :: _ => by simp [PyData.eqvAll]
  | _ :: _, [] => by simp [PyData.eqvAll]
  | s :: a, t :: b => by
    simp only [List.map_cons, PyData.eqvAll, eqv_s1, eqv_st a b]
    apply Bool.eq_iff_iff.mpr
    simp
theorem toPB_t (a : List Stretch) (bx : List D) : D.toPB bx (.tup (a.map sD)) = some (.tuple (a.map sP)) := by
  show (match D.toPs (a.map sD) with | some ps => some (PyData.tuple ps) | none => none) = _
  rw [toPs_s]
theorem eq_t (a b : List Stretch) (bx : List D) : eqD (.tup (a.map sD)) (.tup (b.map sD)) bx = OK (.bl (decide (a = b))) bx := by
  unfold eqD
  rw [toPB_t, toPB_t]
  show (if SeqAt.shaped (.tuple (a.map sP)) = true ∧ SeqAt.shaped (.tuple (b.map sP)) = true then OK (.bl (PyData.eqv (.tuple (a.map sP)) (.tuple (b.map sP)))) bx else .stk) = _
  rw [if_pos ⟨shaped_t a, shaped_t b⟩, ← eqv_st]
  simp only [PyData.eqv]
theorem ne_t (a b : List Stretch) (bx : List D) : neD (.tup (a.map sD)) (.tup (b.map sD)) bx = OK (.bl (!decide (a = b))) bx := by
  unfold neD
  rw [toPB_t, toPB_t]
  show (if SeqAt.shaped (.tuple (a.map sP)) = true ∧ SeqAt.shaped (.tuple (b.map sP)) = true then OK (.bl (!PyData.eqv (.tuple (a.map sP)) (.tuple (b.map sP)))) bx else .stk) = _
  rw [if_pos ⟨shaped_t a, shaped_t b⟩, ← eqv_st]
  simp only [PyData.eqv]
theorem isi_R {y : D} {t : Nat} (hy : y.tc bx = some t) (ht : t ∈ codes [0]) : isiD CA [0] tabI y (.adr (CA 0)) bx = OK (.bl (tabI t 10)) bx := by
  have e : (D.adr (CA 0)).cc CA [0] = some 10 := by simp [D.cc]
  unfold isiD
  rw [hy, e]
  simp only
  rw [if_pos ht]
theorem c_eqr (CA : Ly) (a b : List Stretch) : r_Ranges___eq__ CA [rD a, rD b] bx = OK (.bl (decide (a = b))) bx := by
  refine (ar_ok rfl).trans (body_rt (b := bx) ?_ rfl)
  show m_Ranges___eq__ CA [some (rD a), some (rD b)] bx = _
  refine ev_ret ?_
  have e1 : mCB (un2 (isiD CA [0] tabI)) (aCons (mVar 1) (aCons (mC (.adr (CA 0))) aNil)) [some (rD a), some (rD b)] bx = .ok (.val (.bl true)) bx :=
    (ev_CB (ev_cons (r := .val (rD b)) rfl (ev_cons (r := .val (.adr (CA 0))) rfl ev_nil))).trans (isi_R (y := rD b) (t := 10) rfl (by decide))
  rw [ev_andVT e1, ev_bin (fld_v (a := a) rfl) (fld_v (a := b) rfl)]
  exact eq_t a b bx
theorem c_eqo (CA : Ly) (a : List Stretch) {y : D} {t : Nat} (hy : y.tc bx = some t) (ht : t ∈ [0, 1, 2, 3, 4, 5]) : r_Ranges___eq__ CA [rD a, y] bx = OK (.bl false) bx := by
  refine (ar_ok rfl).trans (body_rt (b := bx) ?_ rfl)
  show m_Ranges___eq__ CA [some (rD a), some y] bx = _
  refine ev_ret ?_
  have e1 : mCB (un2 (isiD CA [0] tabI)) (aCons (mVar 1) (aCons (mC (.adr (CA 0))) aNil)) [some (rD a), some y] bx = .ok (.val (.bl false)) bx := by
    refine (ev_CB (ev_cons (r := .val y) rfl (ev_cons (r := .val (.adr (CA 0))) rfl ev_nil))).trans ((isi_R (y := y) (t := t) hy ?_).trans ?_)
    · simp only [List.mem_cons, List.not_mem_nil, or_false] at ht
      rcases ht with rfl | rfl | rfl | rfl | rfl | rfl <;> decide
    · simp only [List.mem_cons, List.not_mem_nil, or_false] at ht
      rcases ht with rfl | rfl | rfl | rfl | rfl | rfl <;> rfl
  exact ev_andVF e1
theorem q_eq (CA : Ly) (a b : List Stretch) : noX (eqC [0] 0 (r_Ranges___eq__ CA) (rD a) (rD b) bx) = .ok (.val (.bl (decide (a = b)))) bx := by
  show noX (if 0 = 0 ∧ 10 + 0 ∈ codes [0] then r_Ranges___eq__ CA [rD a, rD b] bx else .stk) = _
  rw [if_pos ⟨rfl, by decide⟩, c_eqr]
  rfl
theorem q_ne (CA : Ly) (a b : List Stretch) : noX (neC [0] 0 (r_Ranges___eq__ CA) (rD a) (rD b) bx) = .ok (.val (.bl (!decide (a = b)))) bx := by
  show noX (if 0 = 0 ∧ 10 + 0 ∈ codes [0] then negO (r_Ranges___eq__ CA [rD a, rD b] bx) else .stk) = _
  rw [if_pos ⟨rfl, by decide⟩, c_eqr]
  rfl
theorem in_codes {t : Nat} (ht : t ∈ [0, 1, 2, 3, 4, 5]) : t ∈ codes [0] := by
  simp only [List.mem_cons, List.not_mem_nil, or_false] at ht
  rcases ht with rfl | rfl | rfl | rfl | rfl | rfl <;> decide
theorem q_eqo (CA : Ly) (a : List Stretch) {y : D} {t : Nat} (hy : y.tc bx = some t) (ht : t ∈ [0, 1, 2, 3, 4, 5]) : noX (eqC [0] 0 (r_Ranges___eq__ CA) (rD a) y bx) = .ok (.val (.bl false)) bx := by
  show noX (match y.tc bx with | some t => if 0 = 0 ∧ t ∈ codes [0] then r_Ranges___eq__ CA [rD a, y] bx else .stk | none => .stk) = _
  rw [hy]
  simp only
  rw [if_pos ⟨trivial, in_codes ht⟩, c_eqo CA a hy ht]
  rfl
theorem q_neo (CA : Ly) (a : List Stretch) {y : D} {t : Nat} (hy : y.tc bx = some t) (ht : t ∈ [0, 1, 2, 3, 4, 5]) : noX (neC [0] 0 (r_Ranges___eq__ CA) (rD a) y bx) = .ok (.val (.bl true)) bx := by
  show noX (match y.tc bx with | some t => if 0 = 0 ∧ t ∈ codes [0] then negO (r_Ranges___eq__ CA [rD a, y] bx) else .stk | none => .stk) = _
  rw [hy]
  simp only
  rw [if_pos ⟨trivial, in_codes ht⟩, c_eqo CA a hy ht]
  rfl
theorem q_eqo' (CA : Ly) (a : List Stretch) {y : D} {t : Nat} (hy : y.tc bx = some t) (ht : t ∈ [0, 1, 2, 3, 4, 5]) (ho : y.obj bx = none) : noX (eqC [0] 0 (r_Ranges___eq__ CA) y (rD a) bx) = .ok (.val (.bl false)) bx := by
  unfold eqC
  rw [ho, hy]
  show noX (if t ∈ [0, 1, 2, 3, 4, 5] ∧ 0 = 0 then r_Ranges___eq__ CA [rD a, y] bx else .stk) = _
  rw [if_pos ⟨ht, rfl⟩, c_eqo CA a hy ht]
  rfl
theorem q_neo' (CA : Ly) (a : List Stretch) {y : D} {t : Nat} (hy : y.tc bx = some t) (ht : t ∈ [0, 1, 2, 3, 4, 5]) (ho : y.obj bx = none) : noX (neC [0] 0 (r_Ranges___eq__ CA) y (rD a) bx) = .ok (.val (.bl true)) bx := by
  unfold neC
  rw [ho, hy]
  show noX (if t ∈ [0, 1, 2, 3, 4, 5] ∧ 0 = 0 then negO (r_Ranges___eq__ CA [rD a, y] bx) else .stk) = _
  rw [if_pos ⟨ht, rfl⟩, c_eqo CA a hy ht]
  rfl
/-! ### in, bool, is_within -/
def hasB (st : List Stretch) (n : Int) : Bool := st.any fun s => inB s n
theorem inB_iff (s : Stretch) (n : Int) : inB s n = true ↔ inS s n := by
  obtain ⟨l, h⟩ := s
  cases l <;> cases h <;> simp [inB, loB, hiB, inS]
theorem hasB_iff (st : List Stretch) (n : Int) : hasB st n = true ↔ mem st n := by
  unfold hasB mem
  rw [List.any_eq_true]
  exact ⟨fun ⟨s, h, q⟩ => ⟨s, h, (inB_iff s n).mp q⟩, fun ⟨s, h, q⟩ => ⟨s, h, (inB_iff s n).mpr q⟩⟩
theorem isi_ty {y : D} {t u : Nat} {x : String} (hy : y.tc bx = some t) (hx : tyN x = some u) (ht : t ∈ codes [0]) : isiD CA [0] tabI y (.ty x) bx = OK (.bl (tabI t u)) bx := by
  have e : (D.ty x).cc CA [0] = some u := hx
  unfold isiD
  rw [hy, e]
  simp only
  rw [if_pos ht]
theorem c_isint (CA : Ly) {y : D} {t : Nat} (hy : y.tc bx = some t) (ht : t ∈ codes [0]) : r_is_integer CA [y] bx = OK (.bl (decide (t = 2))) bx := by
  refine (ar_ok rfl).trans (body_rt (b := bx) ?_ rfl)
  show m_is_integer CA [some y] bx = _
  refine ev_ret ?_
  have e1 : mCB (un2 (isiD CA [0] tabI)) (aCons (mVar 0) (aCons (mC (.ty "int")) aNil)) [some y] bx = .ok (.val (.bl (tabI t 2))) bx :=
    (ev_CB (ev_cons (r := .val y) rfl (ev_cons (r := .val (.ty "int")) rfl ev_nil))).trans (isi_ty hy (by simp [tyN]) ht)
  have e2 : mCB (un2 (isiD CA [0] tabI)) (aCons (mVar 0) (aCons (mC (.ty "bool")) aNil)) [some y] bx = .ok (.val (.bl (tabI t 1))) bx :=
    (ev_CB (ev_cons (r := .val y) rfl (ev_cons (r := .val (.ty "bool")) rfl ev_nil))).trans (isi_ty hy (by simp [tyN]) ht)
  have e3 : mNotV (mCB (un2 (isiD CA [0] tabI)) (aCons (mVar 0) (aCons (mC (.ty "bool")) aNil))) [some y] bx = .ok (.val (.bl (!tabI t 1))) bx := by
    unfold mNotV
    rw [ev_test e2]
    rfl
  have key : (tabI t 2 = true ∧ (!tabI t 1) = decide (t = 2)) ∨ (tabI t 2 = false ∧ decide (t = 2) = false) := by
    simp only [codes, List.map_cons, List.map_nil, List.mem_append, List.mem_cons, List.not_mem_nil, or_false] at ht
    rcases ht with (rfl | rfl | rfl | rfl | rfl | rfl | rfl) | rfl <;> decide
  rcases key with ⟨k1, k2⟩ | ⟨k1, k2⟩
  · rw [k1] at e1
    rw [ev_andVT e1, e3, k2]
  · rw [k1] at e1
    rw [ev_andVF e1, k2]
theorem q_in (CA : Ly) (n : Int) (ha : a.length ≤ sizeLine) : noX (inC 0 (r_Ranges___contains__ CA) posO (.int n) (rD a) bx) = .ok (.val (.bl (hasB a n))) bx := by
  have e : r_Ranges___contains__ CA [rD a, .int n] bx = .ok (.val (.bl (hasB a n))) bx := by
    refine (ar_ok rfl).trans (body_rt (b := bx) ?_ rfl)
    show m_Ranges___contains__ CA [some (rD a), some (.int n)] bx = _
    refine ev_ret ?_
    have e1 : mF (r_is_integer CA) (aCons (mVar 1) aNil) [some (rD a), some (.int n)] bx = .ok (.val (.bl true)) bx :=
      (ev_F (ev_cons (r := .val (.int n)) rfl ev_nil)).trans (c_isint CA (t := 2) rfl (by decide))
    rw [ev_andVT e1]
    exact (ev_F (ev_cons (fld_v (a := a) rfl) (ev_cons (r := .val (.int n)) rfl ev_nil))).trans (c_has_number CA (.inl rfl) ha)
  show noX (if 0 = 0 then posO (r_Ranges___contains__ CA [rD a, .int n] bx) else .stk) = _
  rw [if_pos rfl, e]
  rfl
theorem q_ni (CA : Ly) (n : Int) (ha : a.length ≤ sizeLine) : noX (inC 0 (r_Ranges___contains__ CA) negO (.int n) (rD a) bx) = .ok (.val (.bl (!hasB a n))) bx := by
  have e : r_Ranges___contains__ CA [rD a, .int n] bx = .ok (.val (.bl (hasB a n))) bx := by
    refine (ar_ok rfl).trans (body_rt (b := bx) ?_ rfl)
    show m_Ranges___contains__ CA [some (rD a), some (.int n)] bx = _
    refine ev_ret ?_
    have e1 : mF (r_is_integer CA) (aCons (mVar 1) aNil) [some (rD a), some (.int n)] bx = .ok (.val (.bl true)) bx :=
      (ev_F (ev_cons (r := .val (.int n)) rfl ev_nil)).trans (c_isint CA (t := 2) rfl (by decide))
    rw [ev_andVT e1]
    exact (ev_F (ev_cons (fld_v (a := a) rfl) (ev_cons (r := .val (.int n)) rfl ev_nil))).trans (c_has_number CA (.inl rfl) ha)
  show noX (if 0 = 0 then negO (r_Ranges___contains__ CA [rD a, .int n] bx) else .stk) = _
  rw [if_pos rfl, e]
  rfl
theorem q_ino (CA : Ly) {y : D} {t : Nat} (hy : y.tc bx = some t) (ht : t ∈ codes [0]) (h2 : t ≠ 2) : noX (inC 0 (r_Ranges___contains__ CA) posO y (rD a) bx) = .ok (.val (.bl false)) bx := by
  have e : r_Ranges___contains__ CA [rD a, y] bx = .ok (.val (.bl false)) bx := by
    refine (ar_ok rfl).trans (body_rt (b := bx) ?_ rfl)
    show m_Ranges___contains__ CA [some (rD a), some y] bx = _
    refine ev_ret ?_
    have e1 : mF (r_is_integer CA) (aCons (mVar 1) aNil) [some (rD a), some y] bx = .ok (.val (.bl false)) bx := by
      have := (ev_F (mf := r_is_integer CA) (ev_cons (m := mVar 1) (ρ := [some (rD a), some y]) (bx := bx) (r := .val y) rfl ev_nil)).trans (c_isint CA hy ht)
      rw [decide_eq_false h2] at this
      exact this
    exact ev_andVF e1
  show noX (if 0 = 0 then posO (r_Ranges___contains__ CA [rD a, y] bx) else .stk) = _
  rw [if_pos rfl, e]
  rfl
theorem q_bool (CA : Ly) (a : List Stretch) : noX (boolC 0 (r_Ranges___bool__ CA) (rD a) bx) = .ok (.val (.bl (!a.isEmpty))) bx := by
  have e : r_Ranges___bool__ CA [rD a] bx = .ok (.val (.bl (!a.isEmpty))) bx := by
    refine (ar_ok rfl).trans (body_rt (b := bx) ?_ rfl)
    show m_Ranges___bool__ CA [some (rD a)] bx = _
    refine ev_ret ?_
    refine (ev_CB (ev_cons (fld_v (a := a) rfl) ev_nil)).trans ?_
    show OK (.bl (!(a.map sD).isEmpty)) bx = _
    cases a <;> rfl
  show noX (if 0 = 0 then posO (r_Ranges___bool__ CA [rD a] bx) else .stk) = _
  rw [if_pos rfl, e]
  rfl
theorem q_within (CA : Ly) (hb : Cb bx) (ha : St n a) (hb' : St m b) (h : n * (m + 1) ≤ 1000000) (hm : m ≤ 1000000) : ∃ k : Bool, r_Ranges_is_within CA [rD a, rD b] bx = .ok (.val (.bl k)) bx ∧ (k = true ↔ ∀ i, mem a i → mem b i) := by
  refine ⟨decide (commonL a (outL none b) = []), ?_, ?_⟩
  · refine (ar_ok rfl).trans (body_rt (b := bx) ?_ rfl)
    show m_Ranges_is_within CA [some (rD a), some (rD b)] bx = _
    refine ev_ret ?_
    rw [ev_bin (e_less CA hb ha hb' h hm) (r' := .val (.tup (([] : List Stretch).map sD))) (b' := bx) rfl]
    exact eq_t _ _ bx
  · rw [decide_eq_true_iff]
    constructor
    · intro e i hi
      apply Classical.byContradiction
      intro hn
      have := (less_ok (a := a) hb'.c i).mpr ⟨hi, hn⟩
      rw [e] at this
      exact mem_nil i this
    · intro hall
      cases q : commonL a (outL none b) with
      | nil => rfl
      | cons s rest =>
        have hc := (common_ok (a := a) (b := outL none b)).1
        have hm : mem (commonL a (outL none b)) (aNum s) := by
          rw [q]
          refine (mem_cons _ _ _).mpr (.inl (aNum_in s (hc.ok s ?_)))
          rw [q]; exact List.mem_cons_self ..
        obtain ⟨h1, h2⟩ := (less_ok hb'.c _).mp hm
        exact absurd (hall _ h1) h2
end
end K0

set_option Elab.async false
set_option linter.all false
set_option maxRecDepth 100000
set_option maxHeartbeats 4000000
/-! K11: what the law asks of sets. -/
namespace DL
open PySem
/-- a loop that goes through -/
theorem loop_all (Sim : Sl → Prop) {g : D → Sl → Option Sl} {m : MS} {bx : List D} : ∀ (ds : List D) (_ : ∀ d ∈ ds, ∀ ρ, Sim ρ → ∃ ρ1 ρ2, g d ρ = some ρ1 ∧ m ρ1 bx = .nx ρ2 bx ∧ Sim ρ2) (ρ : Sl), Sim ρ → ∃ ρ', loop g m ds ρ bx = .nx ρ' bx ∧ Sim ρ'
  | [], _, ρ, h => ⟨ρ, rfl, h⟩
  | d :: ds, hb, ρ, h => by
    obtain ⟨ρ1, ρ2, e1, e2, h2⟩ := hb d (List.mem_cons_self ..) ρ h
    obtain ⟨ρ3, e3, h3⟩ := loop_all Sim ds (fun x hx => hb x (List.mem_cons_of_mem _ hx)) ρ2 h2
    exact ⟨ρ3, by rw [loop_nx e1 e2, e3], h3⟩
theorem ev_for {mi : MI} {g : D → Sl → Option Sl} {m : MS} {ρ : Sl} {bx b : List D} {ds : List D} (h : mi ρ bx = .ok ds b) : mFor mi g m ρ bx = loop g m ds ρ b := by
  unfold mFor; rw [h]; rfl
theorem ev_iseq {m : ME} {ρ : Sl} {bx b : List D} {ds : List D} {r : R} (h : m ρ bx = .ok r b) (hd : r.d.it = some ds) : iSeq m ρ bx = .ok ds b := by
  unfold iSeq; rw [h]; simp only [Out.bind_ok, hd]
theorem ne_bb (p q : Bool) (bx : List D) : neD (.bl p) (.bl q) bx = OK (.bl (p != q)) bx := by cases p <;> cases q <;> rfl
theorem eq_bb (p q : Bool) (bx : List D) : eqD (.bl p) (.bl q) bx = OK (.bl (p == q)) bx := by cases p <;> cases q <;> rfl
theorem ev_pow {a b : Int} {ρ : Sl} {bx : List D} (h : 0 ≤ b ∧ b ≤ 1000000 ∧ a.natAbs < 2 ^ 64) : mBin powI (mC (.int a)) (mC (.int b)) ρ bx = OK (.int (a ^ b.toNat)) bx := by
  show (if L2.CPow a b then OK (.int (a ^ b.toNat)) bx else .stk) = _
  rw [if_pos (show L2.CPow a b from h)]
theorem ev_addL {m m' : ME} {ρ : Sl} {bx b b' : List D} {r r' : R} {xs ys : List D} (h : m ρ bx = .ok r b) (h' : m' ρ b = .ok r' b') (hx : r.d = .lst xs) (hy : r'.d = .lst ys) (hl : xs.length + ys.length ≤ sizeLine) : mBin addL m m' ρ bx = .ok (.new (.lst (xs ++ ys))) b' := by
  rw [ev_bin h h', hx, hy]
  show (if xs.length + ys.length ≤ sizeLine then Out.ok (R.new (.lst (xs ++ ys))) b' else .stk) = _
  rw [if_pos hl]
end DL
namespace K0
open PySem DL
/-! integers as data -/
theorem toPs_i : ∀ ns : List Int, D.toPs (ns.map .int) = some (ns.map .int)
  | [] => rfl
  | n :: ns => by
    have h := toPs_i ns
    show (match (D.int n).toP, D.toPs (ns.map .int) with | some p, some ps => some (p :: ps) | _, _ => none) = _
    rw [h]
    rfl
theorem lays_i : ∀ ns : List Int, PyData.canLayAll0 (ns.map .int) = true
  | [] => rfl
  | n :: ns => by
    show (true && PyData.canLayAll0 (ns.map .int)) = true
    rw [lays_i ns]; rfl
theorem deeps_i : ∀ ns : List Int, PyData.depthAll (ns.map .int) ≤ 1
  | [] => by simp [PyData.depthAll]
  | n :: ns => by
    have h := deeps_i ns
    simp only [List.map_cons, PyData.depthAll, PyData.depth]
    omega
theorem shaped_i (ns : List Int) : SeqAt.shaped (.list (ns.map .int)) = true := by
  have h := deeps_i ns
  have h2 : (PyData.list (ns.map .int)).depth ≤ 64 := by simp only [PyData.depth]; omega
  unfold SeqAt.shaped
  rw [show (PyData.list (ns.map .int)).canLay0 = PyData.canLayAll0 (ns.map .int) from rfl, lays_i, decide_eq_true h2]; rfl
theorem toPB_i (ns : List Int) (bx : List D) : D.toPB bx (.lst (ns.map .int)) = some (.list (ns.map .int)) := by
  show (match D.toPs (ns.map .int) with | some ps => some (PyData.list ps) | none => none) = _
  rw [toPs_i]
theorem eqn_i (ns : List Int) (bx : List D) : eqD (.lst (ns.map .int)) (.lst []) bx = OK (.bl ns.isEmpty) bx := by
  unfold eqD
  rw [toPB_i, show D.toPB bx (.lst []) = some (.list []) from rfl]
  show (if SeqAt.shaped (.list (ns.map .int)) = true ∧ SeqAt.shaped (.list []) = true then OK (.bl (PyData.eqv (.list (ns.map .int)) (.list []))) bx else .stk) = _
  rw [if_pos ⟨shaped_i ns, rfl⟩]
  cases ns <;> rfl
theorem nen_i (ns : List Int) (bx : List D) : neD (.lst (ns.map .int)) (.lst []) bx = OK (.bl (!ns.isEmpty)) bx := by
  unfold neD
  rw [toPB_i, show D.toPB bx (.lst []) = some (.list []) from rfl]
  show (if SeqAt.shaped (.list (ns.map .int)) = true ∧ SeqAt.shaped (.list []) = true then OK (.bl (!PyData.eqv (.list (ns.map .int)) (.list []))) bx else .stk) = _
  rw [if_pos ⟨shaped_i ns, rfl⟩]
  cases ns <;> rfl
theorem nen_s (st : List Stretch) (bx : List D) : neD (.lst (st.map sD)) (.lst []) bx = OK (.bl (!st.isEmpty)) bx := by
  have e : D.toPB bx (.lst (st.map sD)) = some (.list (st.map sP)) := by
    show (match D.toPs (st.map sD) with | some ps => some (PyData.list ps) | none => none) = _
    rw [toPs_s]
  unfold neD
  rw [e, show D.toPB bx (.lst []) = some (.list []) from rfl]
  show (if SeqAt.shaped (.list (st.map sP)) = true ∧ SeqAt.shaped (.list []) = true then OK (.bl (!PyData.eqv (.list (st.map sP)) (.list []))) bx else .stk) = _
  rw [if_pos ⟨shaped_l st, rfl⟩, eqv_nil]
section
variable {CA : Ly} {bx : List D} {n m : Nat} {a b st : List Stretch} {x y : D}
/-! ### has -/
theorem has_c (x : D) (n : Int) (s : Stretch) (bx : List D) : mAnd (mOr (mTest (mUn isN (mVar 2))) (mTest (mBin leI (mVar 2) (mVar 1)))) (mOr (mTest (mUn isN (mVar 3))) (mTest (mBin leI (mVar 1) (mVar 3)))) [some x, some (.int n), some (oD s.1), some (oD s.2)] bx = .ok (inB s n) bx := by
  obtain ⟨l, h⟩ := s
  have e1 : mOr (mTest (mUn isN (mVar 2))) (mTest (mBin leI (mVar 2) (mVar 1))) [some x, some (.int n), some (oD l), some (oD h)] bx = .ok (loB (l, h) n) bx := by
    cases l with
    | none => exact ev_orT rfl
    | some l => exact (ev_orF (b := bx) rfl).trans rfl
  have e2 : mOr (mTest (mUn isN (mVar 3))) (mTest (mBin leI (mVar 1) (mVar 3))) [some x, some (.int n), some (oD l), some (oD h)] bx = .ok (hiB (l, h) n) bx := by
    cases h with
    | none => exact ev_orT rfl
    | some h => exact (ev_orF (b := bx) rfl).trans rfl
  unfold inB
  cases q : loB (l, h) n with
  | true => rw [q] at e1; rw [ev_andT e1, e2]; rfl
  | false => rw [q] at e1; rw [ev_andF e1]; rfl
theorem c_has (CA : Ly) (n : Int) (hx : x.it = some (st.map sD)) : r__law_has CA [x, .int n] bx = OK (.bl (hasB st n)) bx := by
  refine (ar_ok rfl).trans (body_rt (b := bx) ?_ rfl)
  show m__law_has CA [some x, some (.int n), none, none] bx = _
  have key := loop_find (g := gTup [gN 2, gN 3]) (m := mIfS (mAnd (mOr (mTest (mUn isN (mVar 2))) (mTest (mBin leI (mVar 2) (mVar 1)))) (mOr (mTest (mUn isN (mVar 3))) (mTest (mBin leI (mVar 1) (mVar 3))))) (mRet (mC (.bl true))) mSkip) (r := .val (.bl true)) (bx := bx) sD (fun s => !inB s n) (fun ρ => ∃ o2 o3, ρ = [some x, some (.int n), o2, o3]) st (fun s _ ρ hs => by
    obtain ⟨o2, o3, rfl⟩ := hs
    refine ⟨[some x, some (.int n), some (oD s.1), some (oD s.2)], rfl, ?_⟩
    have e := has_c x n s bx
    cases q : inB s n with
    | true => rw [q] at e; exact .inr ⟨rfl, by rw [ev_ifT e]; rfl⟩
    | false => rw [q] at e; exact .inl ⟨rfl, _, by rw [ev_ifF e]; rfl, _, _, rfl⟩) [some x, some (.int n), none, none] ⟨none, none, rfl⟩
  have ei : iSeq (mVar 0) [some x, some (.int n), none, none] bx = .ok (st.map sD) bx := ev_iseq (r := .val x) rfl hx
  have hh : hasB st n = !(st.all fun s => !inB s n) := by
    unfold hasB
    rw [List.not_all_eq_any_not]
    simp
  unfold m__law_has
  rcases key with ⟨k, ρ', e, _⟩ | ⟨k, e⟩
  · rw [ev_seq ((ev_for ei).trans e), hh, k]; rfl
  · rw [ev_seqR ((ev_for ei).trans e), hh, k]; rfl
/-! ### points -/
def ptsOf : Option Int → List Int
  | none => []
  | some e => [e - 1, e, e + 1]
def pts0 : List Int := [0, 1, -1, 10000000000000, -10000000000000]
def points (st : List Stretch) : List Int := pts0 ++ st.flatMap fun s => ptsOf s.1 ++ ptsOf s.2
def m_pb : MS := mIfS (mTest (mUn notN (mVar 3))) (mAsg (mBin addL (mVar 1) (mLst (aCons (mBin subI (mVar 3) (mC (.int 1))) (aCons (mVar 3) (aCons (mBin addI (mVar 3) (mC (.int 1))) aNil))))) (gN 1)) mSkip
theorem m_points_eq (CA : Ly) : m__law_points CA = mSeq (mAsg (mLst (aCons (mC (.int 0)) (aCons (mC (.int 1)) (aCons (mUn negI (mC (.int 1))) (aCons (mBin powI (mC (.int 10)) (mC (.int 13))) (aCons (mBin subI (mC (.int 0)) (mBin powI (mC (.int 10)) (mC (.int 13)))) aNil)))))) (gN 1)) (mSeq (mFor (iSeq (mVar 0)) (gN 2) (mFor (iSeq (mVar 2)) (gN 3) m_pb)) (mRet (mVar 1))) := rfl
theorem pb_ok {acc : List Int} {u : D} (e : Option Int) (hl : acc.length + 3 ≤ sizeLine) : m_pb [some x, some (.lst (acc.map .int)), some u, some (oD e)] bx = .nx [some x, some (.lst ((acc ++ ptsOf e).map .int)), some u, some (oD e)] bx := by
  unfold m_pb
  cases e with
  | none =>
    rw [ev_ifF (b := bx) rfl]
    simp [mSkip, ptsOf]
  | some e =>
    rw [ev_ifT (b := bx) rfl]
    have e1 := ev_addL (m := mVar 1) (m' := mLst (aCons (mBin subI (mVar 3) (mC (.int 1))) (aCons (mVar 3) (aCons (mBin addI (mVar 3) (mC (.int 1))) aNil)))) (ρ := [some x, some (.lst (acc.map .int)), some u, some (.int e)]) (bx := bx) (b := bx) (b' := bx) (r := .val (.lst (acc.map .int))) (r' := .new (.lst [.int (e - 1), .int e, .int (e + 1)])) rfl rfl rfl rfl (by simpa using hl)
    rw [ev_asg (i := 1) e1]
    simp [ptsOf, R.d]
theorem pts_len (e : Option Int) : (ptsOf e).length ≤ 3 := by cases e <;> simp [ptsOf]
theorem p_loop : ∀ (ss : List Stretch) (acc : List Int) (o2 o3 : Option D), acc.length + 6 * ss.length ≤ sizeLine → ∃ p2 p3, loop (gN 2) (mFor (iSeq (mVar 2)) (gN 3) m_pb) (ss.map sD) [some x, some (.lst (acc.map .int)), o2, o3] bx = .nx [some x, some (.lst ((acc ++ ss.flatMap fun s => ptsOf s.1 ++ ptsOf s.2).map .int)), p2, p3] bx
  | [], acc, o2, o3, _ => ⟨o2, o3, by simp [loop]⟩
  | s :: ss, acc, o2, o3, hl => by
    rw [List.length_cons] at hl
    have h1 := pts_len s.1
    have h2 := pts_len s.2
    have e1 := pb_ok (x := x) (bx := bx) (u := sD s) (acc := acc) s.1 (by omega)
    have e2 := pb_ok (x := x) (bx := bx) (u := sD s) (acc := acc ++ ptsOf s.1) s.2 (by rw [List.length_append]; omega)
    obtain ⟨p2, p3, e⟩ := p_loop ss (acc ++ ptsOf s.1 ++ ptsOf s.2) (some (sD s)) (some (oD s.2)) (by rw [List.length_append, List.length_append]; omega)
    refine ⟨p2, p3, ?_⟩
    have e3 : mFor (iSeq (mVar 2)) (gN 3) m_pb [some x, some (.lst (acc.map .int)), some (sD s), o3] bx = .nx [some x, some (.lst ((acc ++ ptsOf s.1 ++ ptsOf s.2).map .int)), some (sD s), some (oD s.2)] bx := by
      rw [ev_for (ds := [oD s.1, oD s.2]) (b := bx) rfl, loop_nx (ρ1 := [some x, some (.lst (acc.map .int)), some (sD s), some (oD s.1)]) rfl e1, loop_nx (ρ1 := [some x, some (.lst ((acc ++ ptsOf s.1).map .int)), some (sD s), some (oD s.2)]) rfl e2]
      rfl
    rw [List.map_cons, loop_nx (ρ1 := [some x, some (.lst (acc.map .int)), some (sD s), o3]) rfl e3, e, List.flatMap_cons]
    simp
theorem c_points (CA : Ly) (hx : x.it = some (st.map sD)) (hl : st.length ≤ 1000000) : r__law_points CA [x] bx = .ok (.val (.lst ((points st).map .int))) bx := by
  refine (ar_ok rfl).trans (body_rt (b := bx) ?_ rfl)
  show m__law_points CA [some x, none, none, none] bx = _
  rw [m_points_eq]
  have e0 : mLst (aCons (mC (.int 0)) (aCons (mC (.int 1)) (aCons (mUn negI (mC (.int 1))) (aCons (mBin powI (mC (.int 10)) (mC (.int 13))) (aCons (mBin subI (mC (.int 0)) (mBin powI (mC (.int 10)) (mC (.int 13)))) aNil))))) [some x, none, none, none] bx = .ok (.new (.lst (pts0.map .int))) bx := by
    have p : mBin powI (mC (.int 10)) (mC (.int 13)) [some x, none, none, none] bx = OK (.int 10000000000000) bx := ev_pow (by decide)
    have p2 : mBin subI (mC (.int 0)) (mBin powI (mC (.int 10)) (mC (.int 13))) [some x, none, none, none] bx = OK (.int (-10000000000000)) bx := (ev_bin (r := .val (.int 0)) (b := bx) rfl p).trans rfl
    unfold mLst
    rw [ev_cons (r := .val (.int 0)) (b := bx) rfl (ev_cons (r := .val (.int 1)) (b := bx) rfl (ev_cons (r := .val (.int (-1))) (b := bx) rfl (ev_cons p (ev_cons p2 ev_nil))))]
    rfl
  rw [ev_seq (ev_asg (i := 1) e0)]
  obtain ⟨p2, p3, e⟩ := p_loop (x := x) (bx := bx) st pts0 none none (by simp [pts0]; unfold sizeLine; omega)
  have ei : iSeq (mVar 0) [some x, some (.lst (pts0.map .int)), none, none] bx = .ok (st.map sD) bx := ev_iseq (r := .val x) rfl hx
  show mSeq _ _ [some x, some (.lst (pts0.map .int)), none, none] bx = _
  rw [ev_seq ((ev_for ei).trans e)]
  rfl
/-! ### same -/
theorem c_same (CA : Ly) (hl : a.length + b.length ≤ 1000000) : r__law_same CA [.lst (a.map sD), .lst (b.map sD)] bx = OK (.bl ((points (a ++ b)).all fun n => hasB a n == hasB b n)) bx := by
  refine (ar_ok rfl).trans (body_rt (b := bx) ?_ rfl)
  show m__law_same CA [some (.lst (a.map sD)), some (.lst (b.map sD)), none] bx = _
  have ep : iSeq (mF (r__law_points CA) (aCons (mBin addL (mVar 0) (mVar 1)) aNil)) [some (.lst (a.map sD)), some (.lst (b.map sD)), none] bx = .ok ((points (a ++ b)).map .int) bx := by
    refine ev_iseq (r := .val (.lst ((points (a ++ b)).map .int))) ?_ rfl
    have e1 := ev_addL (m := mVar 0) (m' := mVar 1) (ρ := [some (.lst (a.map sD)), some (.lst (b.map sD)), none]) (bx := bx) (b := bx) (b' := bx) (r := .val (.lst (a.map sD))) (r' := .val (.lst (b.map sD))) rfl rfl rfl rfl (by simp; unfold sizeLine; omega)
    rw [ev_F (ev_cons e1 ev_nil)]
    exact c_points CA (by show some _ = _; rw [List.map_append]) (by rw [List.length_append]; omega)
  have key := loop_find (g := gN 2) (m := mIfS (mTest (mBin neD (mF (r__law_has CA) (aCons (mVar 0) (aCons (mVar 2) aNil))) (mF (r__law_has CA) (aCons (mVar 1) (aCons (mVar 2) aNil))))) (mRet (mC (.bl false))) mSkip) (r := .val (.bl false)) (bx := bx) D.int (fun n => hasB a n == hasB b n) (fun ρ => ∃ o, ρ = [some (.lst (a.map sD)), some (.lst (b.map sD)), o]) (points (a ++ b)) (fun i _ ρ hs => by
    obtain ⟨o, rfl⟩ := hs
    refine ⟨[some (.lst (a.map sD)), some (.lst (b.map sD)), some (.int i)], rfl, ?_⟩
    have e1 : mF (r__law_has CA) (aCons (mVar 0) (aCons (mVar 2) aNil)) [some (.lst (a.map sD)), some (.lst (b.map sD)), some (.int i)] bx = OK (.bl (hasB a i)) bx := (ev_F (ev_cons (r := .val (.lst (a.map sD))) rfl (ev_cons (r := .val (.int i)) rfl ev_nil))).trans (c_has CA i rfl)
    have e2 : mF (r__law_has CA) (aCons (mVar 1) (aCons (mVar 2) aNil)) [some (.lst (a.map sD)), some (.lst (b.map sD)), some (.int i)] bx = OK (.bl (hasB b i)) bx := (ev_F (ev_cons (r := .val (.lst (b.map sD))) rfl (ev_cons (r := .val (.int i)) rfl ev_nil))).trans (c_has CA i rfl)
    have e3 := ev_test ((ev_bin e1 e2).trans (ne_bb (hasB a i) (hasB b i) bx))
    cases q : (hasB a i == hasB b i) with
    | true =>
      have q2 : (hasB a i != hasB b i) = false := by simp [bne, q]
      rw [q2] at e3
      exact .inl ⟨rfl, _, by rw [ev_ifF e3]; rfl, _, rfl⟩
    | false =>
      have q2 : (hasB a i != hasB b i) = true := by simp [bne, q]
      rw [q2] at e3
      exact .inr ⟨rfl, by rw [ev_ifT e3]; rfl⟩) [some (.lst (a.map sD)), some (.lst (b.map sD)), none] ⟨none, rfl⟩
  unfold m__law_same
  rcases key with ⟨k, ρ', e, _⟩ | ⟨k, e⟩
  · rw [ev_seq ((ev_for ep).trans e), k]; rfl
  · rw [ev_seqR ((ev_for ep).trans e), k]
theorem hasB_eq (h : ∀ k, mem a k ↔ mem b k) (k : Int) : hasB a k = hasB b k := Bool.eq_iff_iff.mpr ((hasB_iff a k).trans ((h k).trans (hasB_iff b k).symm))
theorem same_true (h : ∀ k, mem a k ↔ mem b k) : ((points (a ++ b)).all fun n => hasB a n == hasB b n) = true := by
  rw [List.all_eq_true]
  intro k _
  rw [hasB_eq h k]
  simp
/-! ### a point for every integer -/
theorem best (n : Int) : ∀ T : List Int, (∃ t ∈ T, t ≤ n) → ∃ t ∈ T, t ≤ n ∧ ∀ u ∈ T, u ≤ n → u ≤ t
  | [], ⟨t, h, _⟩ => by simp at h
  | u :: T, h => by
    by_cases hT : ∃ t ∈ T, t ≤ n
    · obtain ⟨t, h1, h2, h3⟩ := best n T hT
      by_cases hu : u ≤ n ∧ t ≤ u
      · refine ⟨u, List.mem_cons_self .., hu.1, fun v hv hvn => ?_⟩
        rcases List.mem_cons.mp hv with rfl | hv
        · omega
        · have := h3 v hv hvn; omega
      · refine ⟨t, List.mem_cons_of_mem _ h1, h2, fun v hv hvn => ?_⟩
        rcases List.mem_cons.mp hv with rfl | hv
        · omega
        · exact h3 v hv hvn
    · obtain ⟨t, h1, h2⟩ := h
      rcases List.mem_cons.mp h1 with rfl | h1
      · refine ⟨t, List.mem_cons_self .., h2, fun v hv hvn => ?_⟩
        rcases List.mem_cons.mp hv with rfl | hv
        · omega
        · exact absurd ⟨v, hv, hvn⟩ hT
      · exact absurd ⟨t, h1, h2⟩ hT
/-- no end lies very low -/
def lowS (s : Stretch) : Prop := ∀ e, (s.1 = some e ∨ s.2 = some e) → -10000000000000 < e
theorem in_points {s : Stretch} {e v : Int} (hs : s ∈ st) (he : s.1 = some e ∨ s.2 = some e) (hv : v = e ∨ v = e + 1) : v ∈ points st := by
  unfold points
  refine List.mem_append_right _ (List.mem_flatMap.mpr ⟨s, hs, ?_⟩)
  rcases he with he | he
  · refine List.mem_append_left _ ?_
    rw [he]
    rcases hv with rfl | rfl <;> simp [ptsOf]
  · refine List.mem_append_right _ ?_
    rw [he]
    rcases hv with rfl | rfl <;> simp [ptsOf]
theorem proxy (hb : ∀ s ∈ st, lowS s) (n : Int) : ∃ t ∈ points st, ∀ s ∈ st, inS s n ↔ inS s t := by
  have h0 : (-10000000000000 : Int) ∈ points st := List.mem_append_left _ (by simp [pts0])
  by_cases hn : -10000000000000 ≤ n
  · obtain ⟨t, h1, h2, h3⟩ := best n (points st) ⟨_, h0, hn⟩
    refine ⟨t, h1, fun s hs => ?_⟩
    unfold inS
    constructor
    · rintro ⟨q1, q2⟩
      exact ⟨fun l hl => h3 l (in_points hs (.inl hl) (.inl rfl)) (q1 l hl), fun h hh => by have := q2 h hh; omega⟩
    · rintro ⟨q1, q2⟩
      refine ⟨fun l hl => by have := q1 l hl; omega, fun h hh => ?_⟩
      apply Classical.byContradiction
      intro hc
      have := h3 (h + 1) (in_points hs (.inr hh) (.inr rfl)) (by omega)
      have := q2 h hh
      omega
  · refine ⟨_, h0, fun s hs => ?_⟩
    unfold inS
    constructor
    · rintro ⟨q1, q2⟩
      exact ⟨fun l hl => by have := hb s hs l (.inl hl); have := q1 l hl; omega, fun h hh => by have := hb s hs h (.inr hh); omega⟩
    · rintro ⟨q1, q2⟩
      exact ⟨fun l hl => by have := hb s hs l (.inl hl); have := q1 l hl; omega, fun h hh => by have := hb s hs h (.inr hh); omega⟩
theorem mem_proxy {n t : Int} {c : List Stretch} (h : ∀ s ∈ c, inS s n ↔ inS s t) : mem c n ↔ mem c t :=
  ⟨fun ⟨s, hs, q⟩ => ⟨s, hs, (h s hs).mp q⟩, fun ⟨s, hs, q⟩ => ⟨s, hs, (h s hs).mpr q⟩⟩
/-- what holds at the points holds everywhere -/
theorem by_points (hb : ∀ s ∈ a ++ b, lowS s) (P : Prop → Prop → Prop) (h : ∀ n ∈ points (a ++ b), P (mem a n) (mem b n)) (n : Int) : P (mem a n) (mem b n) := by
  obtain ⟨t, h1, h2⟩ := proxy hb n
  have e1 := mem_proxy (c := a) fun s hs => h2 s (List.mem_append_left _ hs)
  have e2 := mem_proxy (c := b) fun s hs => h2 s (List.mem_append_right _ hs)
  rw [propext e1, propext e2]
  exact h t h1
theorem same_iff (hb : ∀ s ∈ a ++ b, lowS s) : ((points (a ++ b)).all fun n => hasB a n == hasB b n) = true ↔ ∀ k, mem a k ↔ mem b k := by
  constructor
  · intro h
    rw [List.all_eq_true] at h
    refine by_points hb (fun p q => p ↔ q) fun n hn => ?_
    have := h n hn
    rw [beq_iff_eq] at this
    rw [← hasB_iff, ← hasB_iff, this]
  · exact same_true
end
end K0

set_option Elab.async false
set_option linter.all false
set_option maxRecDepth 100000
set_option maxHeartbeats 4000000
/-! K12: the pen, draws, ends. -/
namespace DL
open PySem
theorem ev_no {t : MB} {m : MS} {ρ : Sl} {bx b : List D} (h : t ρ bx = .ok false b) : mIfS t m mSkip ρ bx = .nx ρ b := (ev_ifF h).trans rfl
section
variable {m m' : ME} {ρ : Sl} {bx b b' : List D} {i j : Int}
theorem ev_mulI (h : m ρ bx = .ok (.val (.int i)) b) (h' : m' ρ b = .ok (.val (.int j)) b') (c : L2.CMul i j) : mBin mulI m m' ρ bx = .ok (.val (.int (i * j))) b' := by
  rw [ev_bin h h']
  show (if L2.CMul i j then OK (.int (i * j)) b' else .stk) = _
  rw [if_pos c]
theorem ev_modI (h : m ρ bx = .ok (.val (.int i)) b) (h' : m' ρ b = .ok (.val (.int j)) b') (c : 0 < j) : mBin modI m m' ρ bx = .ok (.val (.int (i % j))) b' := by
  rw [ev_bin h h']
  show (if 0 < j then OK (.int (i % j)) b' else .stk) = _
  rw [if_pos c]
theorem ev_divW (h : m ρ bx = .ok (.val (.int i)) b) (h' : m' ρ b = .ok (.val (.int j)) b') (c : 0 < j) (c' : j < 1099511627776) : mBin divW m m' ρ bx = .ok (.val (.int (i / j))) b' := by
  rw [ev_bin h h']
  show (if L2.CDivW i j then OK (.int (i / j)) b' else .stk) = _
  have hz : j.natAbs ≠ 0 := by omega
  have hl : j.natAbs.log2 < 40 := (Nat.log2_lt hz).mpr (by omega)
  rw [if_pos (show L2.CDivW i j from ⟨c, by omega⟩)]
theorem ev_powI (h : m ρ bx = .ok (.val (.int i)) b) (h' : m' ρ b = .ok (.val (.int j)) b') (c : L2.CPow i j) : mBin powI m m' ρ bx = .ok (.val (.int (i ^ j.toNat))) b' := by
  rw [ev_bin h h']
  show (if L2.CPow i j then OK (.int (i ^ j.toNat)) b' else .stk) = _
  rw [if_pos c]
theorem ev_addI (h : m ρ bx = .ok (.val (.int i)) b) (h' : m' ρ b = .ok (.val (.int j)) b') : mBin addI m m' ρ bx = .ok (.val (.int (i + j))) b' := by
  rw [ev_bin h h']; rfl
theorem ev_subI (h : m ρ bx = .ok (.val (.int i)) b) (h' : m' ρ b = .ok (.val (.int j)) b') : mBin subI m m' ρ bx = .ok (.val (.int (i - j))) b' := by
  rw [ev_bin h h']; rfl
theorem ev_int (h : m ρ bx = .ok (.val (.int i)) b) : mCB (un1 intD) (aCons m aNil) ρ bx = .ok (.val (.int i)) b := by
  rw [ev_CB (ev_cons h ev_nil)]; rfl
theorem eq_ii (i j : Int) (bx : List D) : eqD (.int i) (.int j) bx = OK (.bl (i == j)) bx := rfl
theorem ev_eqI (h : m ρ bx = .ok (.val (.int i)) b) (h' : m' ρ b = .ok (.val (.int j)) b') : mTest (mBin eqD m m') ρ bx = .ok (i == j) b' := ev_test ((ev_bin h h').trans rfl)
end
end DL
namespace K0
open PySem DL
theorem cls_i (b : Nat) : ∀ ns : List Int, D.cls b (ns.map .int) = true
  | [] => rfl
  | n :: ns => by
    show (true && D.cls b (ns.map .int)) = true
    rw [cls_i b ns]; rfl
structure Pn where
  cs : List Int
  at_ : Int
  left : Int
abbrev pD (p : Pn) : D := .lst [.lst (p.cs.map .int), .int p.at_, .int p.left]
theorem cl_p (b : Nat) (p : Pn) : (pD p).cl b = true := by
  show (D.cls b (p.cs.map .int) && true) = true
  rw [cls_i]; rfl
structure PO (p : Pn) (k : Int) : Prop where
  lo : 0 ≤ p.at_
  hi : p.at_ ≤ k
  cs : p.cs.length ≤ 63
theorem PO.mono {p : Pn} {k k' : Int} (h : PO p k) (hk : k ≤ k') : PO p k' := ⟨h.lo, by have := h.hi; omega, h.cs⟩
/-- the way a law draws -/
def m_dr (A C E F G : Int) : MS :=
  (mSeq (mIfS (mTest (mBin gtI (mBin ixD (mVar 0) (mC (.int 2))) (mC (.int 0)))) (mSeq (mAsg (mBin modI (mCB (un1 intD) (aCons (mBin ixD (mVar 0) (mC (.int 2))) aNil)) (mVar 1)) (gN 5))
   (mSeq (mSetIx (mBin divW (mBin ixD (mVar 0) (mC (.int 2))) (mVar 1)) (mVar 0) (mC (.int 2)))
   (mRet (mVar 5)))) mSkip)
  (mSeq (mAsg (mBin ixD (mVar 0) (mC (.int 1))) (gN 2))
  (mSeq (mSetIx (mBin addI (mVar 2) (mC (.int 1))) (mVar 0) (mC (.int 1)))
  (mSeq (mAsg (mBin addI (mBin mulI (mC (.int A)) (mVar 2)) (mC (.int C))) (gN 3))
  (mSeq (mIfS (mTest (mBin neD (mBin ixD (mVar 0) (mC (.int 0))) (mLst aNil))) (mAsg (mBin ixD (mBin ixD (mVar 0) (mC (.int 0))) (mBin modI (mCB (un1 intD) (aCons (mVar 2) aNil)) (mCB (un1 lenD) (aCons (mBin ixD (mVar 0) (mC (.int 0))) aNil)))) (gN 3)) mSkip)
  (mSeq (mIfS (mAnd (mTest (mBin ltI (mVar 2) (mCB (un1 lenD) (aCons (mBin ixD (mVar 0) (mC (.int 0))) aNil)))) (mTest (mBin geI (mCB (un1 absD) (aCons (mVar 3) aNil)) (mBin powI (mC (.int 10)) (mC (.int 18)))))) (mSeq (mAsg (mBin addI (mBin mulI (mC (.int 2)) (mCB (un1 absD) (aCons (mVar 3) aNil))) (mCB (un1 intD) (aCons (mBin ltI (mVar 3) (mC (.int 0))) aNil))) (gN 6))
   (mSeq (mSetIx (mBin divW (mVar 6) (mVar 1)) (mVar 0) (mC (.int 2)))
   (mRet (mBin modI (mCB (un1 intD) (aCons (mVar 6) aNil)) (mVar 1))))) mSkip)
  (mSeq (mAsg (mBin modI (mBin powI (mCB (un1 intD) (aCons (mBin addI (mBin addI (mBin modI (mCB (un1 intD) (aCons (mVar 3) aNil)) (mC (.int 2147483549))) (mBin mulI (mC (.int E)) (mVar 2))) (mC (.int F))) aNil)) (mC (.int 5))) (mC (.int 2147483579))) (gN 4))
  (mSeq (mAsg (mBin modI (mBin powI (mCB (un1 intD) (aCons (mBin addI (mBin addI (mBin mulI (mVar 4) (mBin addI (mBin mulI (mC (.int 2)) (mVar 2)) (mC (.int G)))) (mBin mulI (mBin mulI (mC (.int 70001)) (mVar 2)) (mVar 2))) (mC (.int 13))) aNil)) (mC (.int 3))) (mC (.int 2147483629))) (gN 4))
  (mRet (mBin modI (mCB (un1 intD) (aCons (mBin divW (mVar 4) (mC (.int 16))) aNil)) (mVar 1)))))))))))
theorem dr_a (CA : Ly) : r__law_draw CA = ar 2 (body 7 (m_dr 40111 7 50333 21 31)) := rfl
theorem dr_b (CA : Ly) : r__law_draw_b CA = ar 2 (body 7 (m_dr 41113 8 51341 22 33)) := rfl
def Drw (rd : MF) : Prop := ∀ (p : Pn) (k many : Int) (rest : List D), PO p k → k < 1000000 → 0 < many → many < 1099511627776 →
  ∃ r p', rd [.box 0, .int many] (pD p :: rest) = .ok (.val (.int r)) (pD p' :: rest) ∧ 0 ≤ r ∧ r < many ∧ PO p' (k + 1)
theorem atI_nn {α : Type} {xs : List α} {i : Int} (h0 : 0 ≤ i) (h1 : i < xs.length) : ∃ x, L2.atI xs i = some x ∧ x ∈ xs := by
  unfold L2.atI L2.ixN
  rw [if_pos h0, if_pos h1]
  have h2 : i.toNat < xs.length := by omega
  exact ⟨xs[i.toNat], by simp [h2], List.getElem_mem _⟩
theorem small_mul {i j : Int} (h : -(2 ^ 64) < i) (h' : i < 2 ^ 64) : L2.CMul i j := .inl ⟨h, h'⟩
theorem draw_ok {A C E F G : Int} (hA : 0 ≤ A ∧ A < 100000) (hE : 0 ≤ E ∧ E < 100000) (hF : 0 ≤ F ∧ F < 100) (hG : 0 ≤ G ∧ G < 100) : Drw (ar 2 (body 7 (m_dr A C E F G))) := by
  intro p k many rest hp hk hm hm2
  have hlo := hp.lo
  have hhi := hp.hi
  by_cases hl : 0 < p.left
  · -- digits are left
    refine ⟨p.left % many, { p with left := p.left / many }, ?_, Int.emod_nonneg _ (by omega), Int.emod_lt_of_pos _ hm, ⟨hlo, by show p.at_ ≤ k + 1; omega, hp.cs⟩⟩
    refine run_rt ?_
    show m_dr A C E F G [some (.box 0), some (.int many), none, none, none, none, none] (pD p :: rest) = _
    unfold m_dr
    refine ev_seqR ?_
    have t : mTest (mBin gtI (mBin ixD (mVar 0) (mC (.int 2))) (mC (.int 0))) [some (.box 0), some (.int many), none, none, none, none, none] (pD p :: rest) = .ok (decide (0 < p.left)) (pD p :: rest) := rfl
    rw [decide_eq_true hl] at t
    rw [ev_ifT t]
    have e1 : mBin modI (mCB (un1 intD) (aCons (mBin ixD (mVar 0) (mC (.int 2))) aNil)) (mVar 1) [some (.box 0), some (.int many), none, none, none, none, none] (pD p :: rest) = .ok (.val (.int (p.left % many))) (pD p :: rest) := ev_modI (i := p.left) (b := pD p :: rest) rfl rfl hm
    rw [ev_seq (ev_asg (i := 5) e1)]
    have e2 : mBin divW (mBin ixD (mVar 0) (mC (.int 2))) (mVar 1) [some (.box 0), some (.int many), none, none, none, some (.int (p.left % many)), none] (pD p :: rest) = .ok (.val (.int (p.left / many))) (pD p :: rest) := ev_divW (i := p.left) (b := pD p :: rest) rfl rfl hm hm2
    have e3 := ev_setIx (b1 := pD p :: rest) (b2 := pD p :: rest) (mo := mVar 0) (mi := mC (.int 2)) (o := .val (.box 0)) (i := .val (.int 2)) (b3 := pD { p with left := p.left / many } :: rest) e2 rfl rfl rfl
    exact (ev_seq e3).trans rfl
  · -- a cell
    have t : mTest (mBin gtI (mBin ixD (mVar 0) (mC (.int 2))) (mC (.int 0))) [some (.box 0), some (.int many), none, none, none, none, none] (pD p :: rest) = .ok (decide (0 < p.left)) (pD p :: rest) := rfl
    rw [decide_eq_false hl] at t
    let q : Pn := { p with at_ := p.at_ + 1 }
    have hq : PO q (k + 1) := ⟨by show 0 ≤ p.at_ + 1; omega, by show p.at_ + 1 ≤ k + 1; omega, hp.cs⟩
    have s1 : mAsg (mBin ixD (mVar 0) (mC (.int 1))) (gN 2) [some (.box 0), some (.int many), none, none, none, none, none] (pD p :: rest) = .nx [some (.box 0), some (.int many), some (.int p.at_), none, none, none, none] (pD p :: rest) := rfl
    have s2 : mSetIx (mBin addI (mVar 2) (mC (.int 1))) (mVar 0) (mC (.int 1)) [some (.box 0), some (.int many), some (.int p.at_), none, none, none, none] (pD p :: rest) = .nx [some (.box 0), some (.int many), some (.int p.at_), none, none, none, none] (pD q :: rest) := rfl
    have s3 : mAsg (mBin addI (mBin mulI (mC (.int A)) (mVar 2)) (mC (.int C))) (gN 3) [some (.box 0), some (.int many), some (.int p.at_), none, none, none, none] (pD q :: rest) = .nx [some (.box 0), some (.int many), some (.int p.at_), some (.int (A * p.at_ + C)), none, none, none] (pD q :: rest) :=
      ev_asg (i := 3) (ev_addI (b := pD q :: rest) (ev_mulI (i := A) (j := p.at_) (b := pD q :: rest) rfl rfl (small_mul (by omega) (by omega))) rfl)
    have s4 : ∃ c, mIfS (mTest (mBin neD (mBin ixD (mVar 0) (mC (.int 0))) (mLst aNil))) (mAsg (mBin ixD (mBin ixD (mVar 0) (mC (.int 0))) (mBin modI (mCB (un1 intD) (aCons (mVar 2) aNil)) (mCB (un1 lenD) (aCons (mBin ixD (mVar 0) (mC (.int 0))) aNil)))) (gN 3)) mSkip [some (.box 0), some (.int many), some (.int p.at_), some (.int (A * p.at_ + C)), none, none, none] (pD q :: rest) = .nx [some (.box 0), some (.int many), some (.int p.at_), some (.int c), none, none, none] (pD q :: rest) := by
      have tt : mTest (mBin neD (mBin ixD (mVar 0) (mC (.int 0))) (mLst aNil)) [some (.box 0), some (.int many), some (.int p.at_), some (.int (A * p.at_ + C)), none, none, none] (pD q :: rest) = .ok (!p.cs.isEmpty) (pD q :: rest) :=
        ev_test ((ev_bin (r := .val (.lst (p.cs.map .int))) (r' := .new (.lst [])) (b := pD q :: rest) (b' := pD q :: rest) rfl rfl).trans (nen_i _ _))
      cases z : p.cs.isEmpty with
      | true =>
        rw [z] at tt
        exact ⟨A * p.at_ + C, by rw [ev_ifF tt]; rfl⟩
      | false =>
        rw [z] at tt
        have hpos : 0 < p.cs.length := by
          cases hc : p.cs with
          | nil => rw [hc] at z; cases z
          | cons _ _ => simp
        obtain ⟨x, h1, h2⟩ := atI_nn (xs := p.cs.map D.int) (i := p.at_ % (p.cs.length : Int)) (Int.emod_nonneg _ (by omega)) (by rw [List.length_map]; exact Int.emod_lt_of_pos _ (by omega))
        obtain ⟨c, _, rfl⟩ := List.mem_map.mp h2
        refine ⟨c, ?_⟩
        rw [ev_ifT tt]
        have el : mCB (un1 lenD) (aCons (mBin ixD (mVar 0) (mC (.int 0))) aNil) [some (.box 0), some (.int many), some (.int p.at_), some (.int (A * p.at_ + C)), none, none, none] (pD q :: rest) = .ok (.val (.int p.cs.length)) (pD q :: rest) := by
          show OK (.int ((p.cs.map D.int).length : Nat)) (pD q :: rest) = _
          rw [List.length_map]
        have em := ev_modI (m := mCB (un1 intD) (aCons (mVar 2) aNil)) (i := p.at_) (b := pD q :: rest) rfl el (by omega)
        refine ev_asg (i := 3) (r := .val (.int c)) ?_
        rw [ev_bin (r := .val (.lst (p.cs.map .int))) (b := pD q :: rest) rfl em]
        show (match L2.atI (p.cs.map D.int) (p.at_ % (p.cs.length : Int)) with | some d => OK d (pD q :: rest) | none => .stk) = _
        rw [h1]
    obtain ⟨c, s4⟩ := s4
    have tt : mAnd (mTest (mBin ltI (mVar 2) (mCB (un1 lenD) (aCons (mBin ixD (mVar 0) (mC (.int 0))) aNil)))) (mTest (mBin geI (mCB (un1 absD) (aCons (mVar 3) aNil)) (mBin powI (mC (.int 10)) (mC (.int 18))))) [some (.box 0), some (.int many), some (.int p.at_), some (.int c), none, none, none] (pD q :: rest) = .ok (decide (p.at_ < ((p.cs.map D.int).length : Nat)) && decide ((10 : Int) ^ (18 : Int).toNat ≤ if c < 0 then -c else c)) (pD q :: rest) := by
      have t1 : mTest (mBin ltI (mVar 2) (mCB (un1 lenD) (aCons (mBin ixD (mVar 0) (mC (.int 0))) aNil))) [some (.box 0), some (.int many), some (.int p.at_), some (.int c), none, none, none] (pD q :: rest) = .ok (decide (p.at_ < ((p.cs.map D.int).length : Nat))) (pD q :: rest) := rfl
      have t2 : mTest (mBin geI (mCB (un1 absD) (aCons (mVar 3) aNil)) (mBin powI (mC (.int 10)) (mC (.int 18)))) [some (.box 0), some (.int many), some (.int p.at_), some (.int c), none, none, none] (pD q :: rest) = .ok (decide ((10 : Int) ^ (18 : Int).toNat ≤ if c < 0 then -c else c)) (pD q :: rest) :=
        ev_test ((ev_bin (r := .val (.int (if c < 0 then -c else c))) (b := pD q :: rest) rfl (ev_pow (by decide))).trans rfl)
      cases z : decide (p.at_ < ((p.cs.map D.int).length : Nat)) with
      | true => rw [z] at t1; rw [ev_andT t1, t2]; rfl
      | false => rw [z] at t1; rw [ev_andF t1]; rfl
    generalize hz : (decide (p.at_ < ((p.cs.map D.int).length : Nat)) && decide ((10 : Int) ^ (18 : Int).toNat ≤ if c < 0 then -c else c)) = big at tt
    cases big with
    | true =>
      let L : Int := 2 * (if c < 0 then -c else c) + (if decide (c < 0) = true then 1 else 0)
      refine ⟨L % many, { q with left := L / many }, ?_, Int.emod_nonneg _ (by omega), Int.emod_lt_of_pos _ hm, ⟨hq.lo, hq.hi, hq.cs⟩⟩
      refine run_rt ?_
      show m_dr A C E F G [some (.box 0), some (.int many), none, none, none, none, none] (pD p :: rest) = _
      unfold m_dr
      rw [ev_seq (ev_no t), ev_seq s1, ev_seq s2, ev_seq s3, ev_seq s4]
      refine ev_seqR ?_
      rw [ev_ifT tt]
      have e1 : mBin addI (mBin mulI (mC (.int 2)) (mCB (un1 absD) (aCons (mVar 3) aNil))) (mCB (un1 intD) (aCons (mBin ltI (mVar 3) (mC (.int 0))) aNil)) [some (.box 0), some (.int many), some (.int p.at_), some (.int c), none, none, none] (pD q :: rest) = .ok (.val (.int L)) (pD q :: rest) :=
        ev_addI (b := pD q :: rest) (ev_mulI (i := 2) (j := if c < 0 then -c else c) (b := pD q :: rest) rfl rfl (small_mul (by omega) (by omega))) rfl
      rw [ev_seq (ev_asg (i := 6) e1)]
      have e2 : mBin divW (mVar 6) (mVar 1) [some (.box 0), some (.int many), some (.int p.at_), some (.int c), none, none, some (.int L)] (pD q :: rest) = .ok (.val (.int (L / many))) (pD q :: rest) := ev_divW (i := L) (b := pD q :: rest) rfl rfl hm hm2
      have e3 := ev_setIx (b1 := pD q :: rest) (b2 := pD q :: rest) (mo := mVar 0) (mi := mC (.int 2)) (o := .val (.box 0)) (i := .val (.int 2)) (b3 := pD { q with left := L / many } :: rest) e2 rfl rfl rfl
      refine (ev_seq e3).trans ?_
      exact ev_ret (ev_modI (i := L) (b := pD { q with left := L / many } :: rest) rfl rfl hm)
    | false =>
      have m1 := Int.emod_nonneg c (show (2147483549 : Int) ≠ 0 by decide)
      have m2 := Int.emod_lt_of_pos c (show (0 : Int) < 2147483549 by decide)
      have n1 : 0 ≤ E * p.at_ := Int.mul_nonneg hE.1 hlo
      have n2 : E * p.at_ ≤ 100000 * 1000000 := Int.mul_le_mul (by omega) (by omega) hlo (by decide)
      let X : Int := c % 2147483549 + E * p.at_ + F
      have hX : 0 ≤ X ∧ X < 1000000000000 := by constructor <;> (show _; simp only [X]; omega)
      let Y : Int := X ^ (5 : Int).toNat % 2147483579
      have y1 : 0 ≤ Y := Int.emod_nonneg _ (by decide)
      have y2 : Y < 2147483579 := Int.emod_lt_of_pos _ (by decide)
      have n3 : 0 ≤ Y * (2 * p.at_ + G) := Int.mul_nonneg y1 (by omega)
      have n4 : Y * (2 * p.at_ + G) ≤ 2147483579 * 3000000 := Int.mul_le_mul (by omega) (by omega) (by omega) (by decide)
      have n5 : 0 ≤ 70001 * p.at_ * p.at_ := Int.mul_nonneg (by omega) hlo
      have n6 : 70001 * p.at_ * p.at_ ≤ (70001 * 1000000) * 1000000 := Int.mul_le_mul (by omega) (by omega) hlo (by decide)
      let Z : Int := Y * (2 * p.at_ + G) + 70001 * p.at_ * p.at_ + 13
      have hZ : 0 ≤ Z ∧ Z < 18446744073709551616 := by constructor <;> (show _; simp only [Z]; omega)
      let V : Int := Z ^ (3 : Int).toNat % 2147483629
      refine ⟨V / 16 % many, q, ?_, Int.emod_nonneg _ (by omega), Int.emod_lt_of_pos _ hm, hq⟩
      refine run_rt ?_
      show m_dr A C E F G [some (.box 0), some (.int many), none, none, none, none, none] (pD p :: rest) = _
      unfold m_dr
      rw [ev_seq (ev_no t), ev_seq s1, ev_seq s2, ev_seq s3, ev_seq s4, ev_seq (ev_no tt)]
      have e1 : mBin addI (mBin addI (mBin modI (mCB (un1 intD) (aCons (mVar 3) aNil)) (mC (.int 2147483549))) (mBin mulI (mC (.int E)) (mVar 2))) (mC (.int F)) [some (.box 0), some (.int many), some (.int p.at_), some (.int c), none, none, none] (pD q :: rest) = .ok (.val (.int X)) (pD q :: rest) :=
        ev_addI (b := pD q :: rest) (ev_addI (b := pD q :: rest) (ev_modI (i := c) (j := 2147483549) (b := pD q :: rest) rfl rfl (by decide)) (ev_mulI (i := E) (j := p.at_) (b := pD q :: rest) rfl rfl (small_mul (by omega) (by omega)))) rfl
      have e2 : mBin modI (mBin powI (mCB (un1 intD) (aCons (mBin addI (mBin addI (mBin modI (mCB (un1 intD) (aCons (mVar 3) aNil)) (mC (.int 2147483549))) (mBin mulI (mC (.int E)) (mVar 2))) (mC (.int F))) aNil)) (mC (.int 5))) (mC (.int 2147483579)) [some (.box 0), some (.int many), some (.int p.at_), some (.int c), none, none, none] (pD q :: rest) = .ok (.val (.int Y)) (pD q :: rest) :=
        ev_modI (b := pD q :: rest) (ev_powI (j := 5) (b := pD q :: rest) (ev_int e1) rfl ⟨by decide, by decide, by have := hX; omega⟩) rfl (by decide)
      rw [ev_seq (ev_asg (i := 4) e2)]
      have e3 : mBin addI (mBin addI (mBin mulI (mVar 4) (mBin addI (mBin mulI (mC (.int 2)) (mVar 2)) (mC (.int G)))) (mBin mulI (mBin mulI (mC (.int 70001)) (mVar 2)) (mVar 2))) (mC (.int 13)) [some (.box 0), some (.int many), some (.int p.at_), some (.int c), some (.int Y), none, none] (pD q :: rest) = .ok (.val (.int Z)) (pD q :: rest) :=
        ev_addI (b := pD q :: rest) (ev_addI (b := pD q :: rest) (ev_mulI (i := Y) (b := pD q :: rest) rfl (ev_addI (b := pD q :: rest) (ev_mulI (i := 2) (j := p.at_) (b := pD q :: rest) rfl rfl (small_mul (by omega) (by omega))) rfl) (small_mul (by omega) (by omega))) (ev_mulI (j := p.at_) (b := pD q :: rest) (ev_mulI (i := 70001) (j := p.at_) (b := pD q :: rest) rfl rfl (small_mul (by omega) (by omega))) rfl (small_mul (by omega) (by omega)))) rfl
      have e4 : mBin modI (mBin powI (mCB (un1 intD) (aCons (mBin addI (mBin addI (mBin mulI (mVar 4) (mBin addI (mBin mulI (mC (.int 2)) (mVar 2)) (mC (.int G)))) (mBin mulI (mBin mulI (mC (.int 70001)) (mVar 2)) (mVar 2))) (mC (.int 13))) aNil)) (mC (.int 3))) (mC (.int 2147483629)) [some (.box 0), some (.int many), some (.int p.at_), some (.int c), some (.int Y), none, none] (pD q :: rest) = .ok (.val (.int V)) (pD q :: rest) :=
        ev_modI (b := pD q :: rest) (ev_powI (j := 3) (b := pD q :: rest) (ev_int e3) rfl ⟨by decide, by decide, by have := hZ; omega⟩) rfl (by decide)
      refine (ev_seq (ev_asg (i := 4) e4)).trans ?_
      refine ev_ret (ev_modI (i := V / 16) (b := pD q :: rest) (ev_int (ev_divW (i := V) (j := 16) (b := pD q :: rest) rfl rfl (by decide) (by decide))) rfl hm)
/-- a draw in an expression -/
theorem ev_draw {rd : MF} (hd : Drw rd) {ρ : Sl} {p : Pn} {k many : Int} {rest : List D} {m : ME} (h0 : ρ[0]? = some (some (.box 0))) (hm : m ρ (pD p :: rest) = .ok (.val (.int many)) (pD p :: rest)) (hp : PO p k) (hk : k < 1000000) (h1 : 0 < many) (h2 : many < 1099511627776) :
    ∃ r p', mF rd (aCons (mVar 0) (aCons m aNil)) ρ (pD p :: rest) = .ok (.val (.int r)) (pD p' :: rest) ∧ 0 ≤ r ∧ r < many ∧ PO p' (k + 1) := by
  obtain ⟨r, p', e, h⟩ := hd p k many rest hp hk h1 h2
  refine ⟨r, p', ?_, h⟩
  have e0 : mVar 0 ρ (pD p :: rest) = .ok (.val (.box 0)) (pD p :: rest) := by unfold mVar; rw [h0]
  rw [ev_F (ev_cons e0 (ev_cons hm ev_nil))]
  exact e
/-! ### ends -/
def m_en (rd : MF) : MS :=
  (mSeq (mAsg (mF rd (aCons (mVar 0) (aCons (mC (.int 6)) aNil))) (gN 1))
  (mSeq (mIfS (mTest (mBin ltI (mVar 1) (mC (.int 3)))) (mRet (mBin subI (mF rd (aCons (mVar 0) (aCons (mC (.int 15)) aNil))) (mC (.int 7)))) mSkip)
  (mSeq (mIfS (mTest (mBin eqD (mVar 1) (mC (.int 3)))) (mRet (mBin subI (mF rd (aCons (mVar 0) (aCons (mC (.int 201)) aNil))) (mC (.int 100)))) mSkip)
  (mSeq (mIfS (mTest (mBin eqD (mVar 1) (mC (.int 4)))) (mRet (mBin mulI (mBin subI (mBin subI (mBin powI (mC (.int 10)) (mC (.int 12))) (mC (.int 40))) (mF rd (aCons (mVar 0) (aCons (mC (.int 4)) aNil)))) (mBin subI (mC (.int 1)) (mBin mulI (mC (.int 2)) (mF rd (aCons (mVar 0) (aCons (mC (.int 2)) aNil))))))) mSkip)
  (mRet (mBin mulI (mF rd (aCons (mVar 0) (aCons (mBin powI (mC (.int 10)) (mC (.int 11))) aNil))) (mBin subI (mC (.int 1)) (mBin mulI (mC (.int 2)) (mF rd (aCons (mVar 0) (aCons (mC (.int 2)) aNil)))))))))))
theorem en_a (CA : Ly) : r__law_end CA = ar 1 (body 2 (m_en (r__law_draw CA))) := rfl
theorem en_b (CA : Ly) : r__law_end_b CA = ar 1 (body 2 (m_en (r__law_draw_b CA))) := rfl
def Enw (re : MF) : Prop := ∀ (p : Pn) (k : Int) (rest : List D), PO p k → k < 999990 →
  ∃ r p', re [.box 0] (pD p :: rest) = .ok (.val (.int r)) (pD p' :: rest) ∧ -1000000000000 ≤ r ∧ r ≤ 1000000000000 ∧ PO p' (k + 3)
theorem sgn {r : Int} (h0 : 0 ≤ r) (h1 : r < 2) (x : Int) : x * (1 - 2 * r) = x ∨ x * (1 - 2 * r) = -x := by
  rcases (show r = 0 ∨ r = 1 by omega) with rfl | rfl
  · left; omega
  · right; omega
theorem end_ok {rd : MF} (hd : Drw rd) : Enw (ar 1 (body 2 (m_en rd))) := by
  intro p k rest hp hk
  obtain ⟨pick, p1, e1, a1, a2, hp1⟩ := ev_draw hd (ρ := [some (.box 0), none]) (rest := rest) (m := mC (.int 6)) rfl rfl hp (by omega) (by decide) (by decide)
  have fin : ∀ r p', m_en rd [some (.box 0), none] (pD p :: rest) = .rt (.val (.int r)) (pD p' :: rest) → ar 1 (body 2 (m_en rd)) [.box 0] (pD p :: rest) = .ok (.val (.int r)) (pD p' :: rest) := fun r p' h => run_rt h
  have d2 : ∀ (p1 : Pn) (k1 : Int), PO p1 k1 → k1 < 999995 → ∃ x r p', mBin subI (mC (.int 1)) (mBin mulI (mC (.int 2)) (mF rd (aCons (mVar 0) (aCons (mC (.int 2)) aNil)))) [some (.box 0), some (.int pick)] (pD p1 :: rest) = .ok (.val (.int x)) (pD p' :: rest) ∧ x = 1 - 2 * r ∧ 0 ≤ r ∧ r < 2 ∧ PO p' (k1 + 1) := fun p1 k1 h hk1 => by
    obtain ⟨r, p', e, b1, b2, h'⟩ := ev_draw hd (ρ := [some (.box 0), some (.int pick)]) (rest := rest) (m := mC (.int 2)) rfl rfl h (by omega) (by decide) (by decide)
    exact ⟨1 - 2 * r, r, p', ev_subI (i := 1) (b := pD p1 :: rest) rfl (ev_mulI (i := 2) (b := pD p1 :: rest) rfl e (small_mul (by omega) (by omega))), rfl, b1, b2, h'⟩
  have t1 : mTest (mBin ltI (mVar 1) (mC (.int 3))) [some (.box 0), some (.int pick)] (pD p1 :: rest) = .ok (decide (pick < 3)) (pD p1 :: rest) := rfl
  have t2 : mTest (mBin eqD (mVar 1) (mC (.int 3))) [some (.box 0), some (.int pick)] (pD p1 :: rest) = .ok (pick == 3) (pD p1 :: rest) := rfl
  have t3 : mTest (mBin eqD (mVar 1) (mC (.int 4))) [some (.box 0), some (.int pick)] (pD p1 :: rest) = .ok (pick == 4) (pD p1 :: rest) := rfl
  by_cases c1 : pick < 3
  · obtain ⟨r, p', e, b1, b2, h'⟩ := ev_draw hd (ρ := [some (.box 0), some (.int pick)]) (rest := rest) (m := mC (.int 15)) rfl rfl hp1 (by omega) (by decide) (by decide)
    refine ⟨r - 7, p', fin _ _ ?_, by omega, by omega, h'.mono (by omega)⟩
    unfold m_en
    rw [ev_seq (ev_asg (i := 1) e1)]
    refine ev_seqR ?_
    rw [decide_eq_true c1] at t1
    refine (ev_ifT t1).trans (ev_ret (ev_subI e rfl))
  · rw [decide_eq_false c1] at t1
    by_cases c2 : pick = 3
    · obtain ⟨r, p', e, b1, b2, h'⟩ := ev_draw hd (ρ := [some (.box 0), some (.int pick)]) (rest := rest) (m := mC (.int 201)) rfl rfl hp1 (by omega) (by decide) (by decide)
      refine ⟨r - 100, p', fin _ _ ?_, by omega, by omega, h'.mono (by omega)⟩
      unfold m_en
      rw [ev_seq (ev_asg (i := 1) e1)]
      refine (ev_seq (ev_no t1)).trans ?_
      refine ev_seqR ?_
      rw [show (pick == 3) = true by rw [c2]; rfl] at t2
      refine (ev_ifT t2).trans (ev_ret (ev_subI e rfl))
    · rw [show (pick == 3) = false from beq_eq_false_iff_ne.mpr c2] at t2
      by_cases c3 : pick = 4
      · obtain ⟨r, p2, e, b1, b2, h2⟩ := ev_draw hd (ρ := [some (.box 0), some (.int pick)]) (rest := rest) (m := mC (.int 4)) rfl rfl hp1 (by omega) (by decide) (by decide)
        obtain ⟨x, s, p3, e3, rfl, b3, b4, h3⟩ := d2 p2 _ h2 (by omega)
        have hs := sgn b3 b4 (1000000000000 - 40 - r)
        refine ⟨(1000000000000 - 40 - r) * (1 - 2 * s), p3, fin _ _ ?_, by omega, by omega, h3.mono (by omega)⟩
        unfold m_en
        rw [ev_seq (ev_asg (i := 1) e1)]
        refine (ev_seq (ev_no t1)).trans ?_
        refine (ev_seq (ev_no t2)).trans ?_
        refine ev_seqR ?_
        rw [show (pick == 4) = true by rw [c3]; rfl] at t3
        refine (ev_ifT t3).trans (ev_ret ?_)
        exact ev_mulI (ev_subI (i := 1000000000000 - 40) (b := pD p1 :: rest) (ev_subI (i := 1000000000000) (b := pD p1 :: rest) (ev_pow (a := 10) (b := 12) (by decide)) rfl) e) e3 (small_mul (by omega) (by omega))
      · rw [show (pick == 4) = false from beq_eq_false_iff_ne.mpr c3] at t3
        obtain ⟨r, p2, e, b1, b2, h2⟩ := ev_draw hd (ρ := [some (.box 0), some (.int pick)]) (rest := rest) (m := mBin powI (mC (.int 10)) (mC (.int 11))) (many := 100000000000) rfl (ev_pow (a := 10) (b := 11) (by decide)) hp1 (by omega) (by decide) (by decide)
        obtain ⟨x, s, p3, e3, rfl, b3, b4, h3⟩ := d2 p2 _ h2 (by omega)
        have hs := sgn b3 b4 r
        refine ⟨r * (1 - 2 * s), p3, fin _ _ ?_, by omega, by omega, h3.mono (by omega)⟩
        unfold m_en
        rw [ev_seq (ev_asg (i := 1) e1)]
        refine (ev_seq (ev_no t1)).trans ?_
        refine (ev_seq (ev_no t2)).trans ?_
        refine (ev_seq (ev_no t3)).trans ?_
        refine ev_ret ?_
        exact ev_mulI e e3 (small_mul (by omega) (by omega))
theorem Drw_a (CA : Ly) : Drw (r__law_draw CA) := draw_ok (by decide) (by decide) (by decide) (by decide)
theorem Drw_b (CA : Ly) : Drw (r__law_draw_b CA) := draw_ok (by decide) (by decide) (by decide) (by decide)
theorem Enw_a (CA : Ly) : Enw (r__law_end CA) := end_ok (Drw_a CA)
theorem Enw_b (CA : Ly) : Enw (r__law_end_b CA) := end_ok (Drw_b CA)
end K0

set_option Elab.async false
set_option linter.all false
set_option maxRecDepth 100000
set_option maxHeartbeats 4000000
/-! K13: stretches drawn. -/
namespace K0
open PySem DL
structure good (s : Stretch) : Prop where
  ok : okS s
  lo : ∀ e, (s.1 = some e ∨ s.2 = some e) → -1000000000000 ≤ e
theorem good.low {s : Stretch} (h : good s) : lowS s := fun e he => by have := h.lo e he; omega
theorem get_p {p : Pn} {rest : List D} {x : D} : (pD p :: (rest ++ [x]))[rest.length + 1]? = some x := by simp
theorem set_p {p : Pn} {rest : List D} {x y : D} : (pD p :: (rest ++ [x])).set (rest.length + 1) y = pD p :: (rest ++ [y]) := by simp
/-- the body of the loop -/
def m_sb (rd re : MF) : MS := (mSeq (mAsg (mF re (aCons (mVar 0) aNil)) (gN 4))
   (mSeq (mAsg (mF rd (aCons (mVar 0) (aCons (mC (.int 8)) aNil))) (gN 5))
   (mSeq (mIfS (mAnd (mTest (mBin neD (mVar 2) (mLst aNil))) (mTest (mBin ltI (mVar 5) (mC (.int 4))))) (mSeq (mAsg (mBin ixD (mBin ixD (mVar 2) (mUn negI (mC (.int 1)))) (mBin divW (mVar 5) (mC (.int 2)))) (gN 4))
    (mAsg (mBin addI (mBin addI (mIf (mTest (mUn isN (mVar 4))) (mC (.int 0)) (mVar 4)) (mC (.int 1))) (mBin modI (mCB (un1 intD) (aCons (mVar 5) aNil)) (mC (.int 2)))) (gN 4))) mSkip)
   (mSeq (mAsg (mBin addI (mVar 4) (mBin ixD (mLst (aCons (mC (.int 0)) (aCons (mC (.int 0)) (aCons (mC (.int 1)) (aCons (mC (.int 2)) (aCons (mF rd (aCons (mVar 0) (aCons (mC (.int 10)) aNil))) (aCons (mF rd (aCons (mVar 0) (aCons (mC (.int 1000)) aNil))) aNil))))))) (mF rd (aCons (mVar 0) (aCons (mC (.int 6)) aNil))))) (gN 6))
   (mSeq (mAsg (mCB (un2 min2) (aCons (mVar 6) (aCons (mBin subI (mBin powI (mC (.int 10)) (mC (.int 12))) (mC (.int 40))) aNil))) (gN 6))
   (mSeq (mAsg (mTup (aCons (mCB (un2 min2) (aCons (mVar 4) (aCons (mVar 6) aNil))) (aCons (mVar 6) aNil))) (gN 7))
   (mSeq (mAsg (mF rd (aCons (mVar 0) (aCons (mC (.int 9)) aNil))) (gN 5))
   (mSeq (mIfS (mTest (mBin eqD (mVar 5) (mC (.int 0)))) (mAsg (mTup (aCons (mC .non) (aCons (mVar 6) aNil))) (gN 7)) mSkip)
   (mSeq (mIfS (mTest (mBin eqD (mVar 5) (mC (.int 1)))) (mAsg (mTup (aCons (mCB (un2 min2) (aCons (mVar 4) (aCons (mVar 6) aNil))) (aCons (mC .non) aNil))) (gN 7)) mSkip)
   (mExpr (mBm appD (mVar 2) (aCons (mVar 7) aNil))))))))))))
def m_st (rd re : MF) : MS := (mSeq (mBox (mLst aNil) 2)
  (mSeq (mFor (iRng1M (mF rd (aCons (mVar 0) (aCons (mBin addI (mVar 1) (mC (.int 1))) aNil)))) (gN 3) (m_sb rd re))
  (mRet (mVar 2))))
theorem st_a (CA : Ly) : r__law_stretches CA = ar 2 (body 8 (m_st (r__law_draw CA) (r__law_end CA))) := rfl
theorem st_b (CA : Ly) : r__law_stretches_b CA = ar 2 (body 8 (m_st (r__law_draw_b CA) (r__law_end_b CA))) := rfl
abbrev S8 (most : D) (n : Nat) (o3 o4 o5 o6 o7 : Option D) : Sl := [some (.box 0), some most, some (.box n), o3, o4, o5, o6, o7]
theorem min_ev {m m' : ME} {ρ : Sl} {bx b b' : List D} {i j : Int} (h : m ρ bx = .ok (.val (.int i)) b) (h' : m' ρ b = .ok (.val (.int j)) b') : mCB (un2 min2) (aCons m (aCons m' aNil)) ρ bx = .ok (.val (.int (if j < i then j else i))) b' := by
  rw [ev_CB (ev_cons h (ev_cons h' ev_nil))]; rfl
section
variable {rd re : MF} {p : Pn} {k : Int} {rest : List D} {acc : List Stretch} {most : D} {o3 o4 o5 o6 o7 : Option D}
/-- low, from the last one -/
theorem sb_low {low pick : Int} (hpick : 0 ≤ pick ∧ pick < 8) (hlow : -1000000000000 ≤ low) (hacc : ∀ s ∈ acc, good s) :
    ∃ low', mIfS (mAnd (mTest (mBin neD (mVar 2) (mLst aNil))) (mTest (mBin ltI (mVar 5) (mC (.int 4))))) (mSeq (mAsg (mBin ixD (mBin ixD (mVar 2) (mUn negI (mC (.int 1)))) (mBin divW (mVar 5) (mC (.int 2)))) (gN 4))
    (mAsg (mBin addI (mBin addI (mIf (mTest (mUn isN (mVar 4))) (mC (.int 0)) (mVar 4)) (mC (.int 1))) (mBin modI (mCB (un1 intD) (aCons (mVar 5) aNil)) (mC (.int 2)))) (gN 4))) mSkip (S8 most (rest.length + 1) o3 (some (.int low)) (some (.int pick)) o6 o7) (pD p :: (rest ++ [D.lst (acc.map sD)])) =
    .nx (S8 most (rest.length + 1) o3 (some (.int low')) (some (.int pick)) o6 o7) (pD p :: (rest ++ [D.lst (acc.map sD)])) ∧ -1000000000000 ≤ low' := by
  have t1 : mTest (mBin neD (mVar 2) (mLst aNil)) (S8 most (rest.length + 1) o3 (some (.int low)) (some (.int pick)) o6 o7) (pD p :: (rest ++ [D.lst (acc.map sD)])) = .ok (!acc.isEmpty) (pD p :: (rest ++ [D.lst (acc.map sD)])) :=
    ev_test ((ev_bin (r := .val (.box (rest.length + 1))) (r' := .new (.lst [])) (b := pD p :: (rest ++ [D.lst (acc.map sD)])) (b' := pD p :: (rest ++ [D.lst (acc.map sD)])) rfl rfl).trans (ne_box (st := acc) (get_p (p := p) (rest := rest) (x := D.lst (acc.map sD)))))
  have t2 : mTest (mBin ltI (mVar 5) (mC (.int 4))) (S8 most (rest.length + 1) o3 (some (.int low)) (some (.int pick)) o6 o7) (pD p :: (rest ++ [D.lst (acc.map sD)])) = .ok (decide (pick < 4)) (pD p :: (rest ++ [D.lst (acc.map sD)])) := rfl
  rcases List.eq_nil_or_concat acc with rfl | ⟨init, t, rfl⟩
  · exact ⟨low, ev_no (ev_andF t1), hlow⟩
  · rw [show (!(init.concat t).isEmpty) = true by cases init <;> rfl] at t1
    by_cases hp : pick < 4
    · rw [decide_eq_true hp] at t2
      have ht : good t := hacc t (by simp)
      have e1 : mBin ixD (mVar 2) (mUn negI (mC (.int 1))) (S8 most (rest.length + 1) o3 (some (.int low)) (some (.int pick)) o6 o7) (pD p :: (rest ++ [D.lst ((init.concat t).map sD)])) = .ok (.val (sD t)) (pD p :: (rest ++ [D.lst ((init.concat t).map sD)])) :=
        ix_last (ds := init.map sD) (d := sD t) (by rw [get_p]; simp)
      have e2 : ∃ e, (t.1 = e ∨ t.2 = e) ∧ mBin ixD (mBin ixD (mVar 2) (mUn negI (mC (.int 1)))) (mBin divW (mVar 5) (mC (.int 2))) (S8 most (rest.length + 1) o3 (some (.int low)) (some (.int pick)) o6 o7) (pD p :: (rest ++ [D.lst ((init.concat t).map sD)])) = .ok (.val (oD e)) (pD p :: (rest ++ [D.lst ((init.concat t).map sD)])) := by
        have e3 : mBin divW (mVar 5) (mC (.int 2)) (S8 most (rest.length + 1) o3 (some (.int low)) (some (.int pick)) o6 o7) (pD p :: (rest ++ [D.lst ((init.concat t).map sD)])) = .ok (.val (.int (pick / 2))) (pD p :: (rest ++ [D.lst ((init.concat t).map sD)])) := ev_divW (i := pick) (j := 2) (b := pD p :: (rest ++ [D.lst ((init.concat t).map sD)])) rfl rfl (by decide) (by decide)
        rcases (show pick / 2 = 0 ∨ pick / 2 = 1 by omega) with q | q
        · rw [q] at e3; exact ⟨t.1, .inl rfl, (ev_bin e1 e3).trans rfl⟩
        · rw [q] at e3; exact ⟨t.2, .inr rfl, (ev_bin e1 e3).trans rfl⟩
      obtain ⟨e, he, e2⟩ := e2
      have e5 : ∃ v, -1000000000000 ≤ v ∧ mIf (mTest (mUn isN (mVar 4))) (mC (.int 0)) (mVar 4) (S8 most (rest.length + 1) o3 (some (oD e)) (some (.int pick)) o6 o7) (pD p :: (rest ++ [D.lst ((init.concat t).map sD)])) = .ok (.val (.int v)) (pD p :: (rest ++ [D.lst ((init.concat t).map sD)])) := by
        cases e with
        | none => exact ⟨0, by decide, rfl⟩
        | some v => exact ⟨v, ht.lo v he, rfl⟩
      obtain ⟨v, hv, e5⟩ := e5
      have e4 : mAsg (mBin addI (mBin addI (mIf (mTest (mUn isN (mVar 4))) (mC (.int 0)) (mVar 4)) (mC (.int 1))) (mBin modI (mCB (un1 intD) (aCons (mVar 5) aNil)) (mC (.int 2)))) (gN 4) (S8 most (rest.length + 1) o3 (some (oD e)) (some (.int pick)) o6 o7) (pD p :: (rest ++ [D.lst ((init.concat t).map sD)])) = .nx (S8 most (rest.length + 1) o3 (some (.int (v + 1 + pick % 2))) (some (.int pick)) o6 o7) (pD p :: (rest ++ [D.lst ((init.concat t).map sD)])) :=
        ev_asg (i := 4) (ev_addI (ev_addI e5 rfl) (ev_modI (i := pick) (j := 2) (b := pD p :: (rest ++ [D.lst ((init.concat t).map sD)])) rfl rfl (by decide)))
      refine ⟨v + 1 + pick % 2, ?_, by omega⟩
      rw [ev_ifT ((ev_andT t1).trans t2), ev_seq (ev_asg (i := 4) e2)]
      exact e4
    · rw [decide_eq_false hp] at t2
      exact ⟨low, ev_no ((ev_andT t1).trans t2), hlow⟩
theorem sb_ok (hd : Drw rd) (he : Enw re) (hp : PO p k) (hk : k < 999900) (hacc : ∀ s ∈ acc, good s) (hl : acc.length < sizeLine) :
    ∃ (s : Stretch) (p' : Pn) (q4 q5 q6 : Option D), m_sb rd re (S8 most (rest.length + 1) o3 o4 o5 o6 o7) (pD p :: (rest ++ [D.lst (acc.map sD)])) = .nx (S8 most (rest.length + 1) o3 q4 q5 q6 (some (sD s))) (pD p' :: (rest ++ [D.lst ((acc ++ [s]).map sD)])) ∧ good s ∧ PO p' (k + 8) := by
  have hk8 : k + 3 + 1 + 1 + 1 + 1 + 1 ≤ k + 8 := by omega
  obtain ⟨low, p1, e1, a1, a2, h1⟩ := he p k (rest ++ [D.lst (acc.map sD)]) hp (by omega)
  have s1 : mAsg (mF re (aCons (mVar 0) aNil)) (gN 4) (S8 most (rest.length + 1) o3 o4 o5 o6 o7) (pD p :: (rest ++ [D.lst (acc.map sD)])) = .nx (S8 most (rest.length + 1) o3 (some (.int low)) o5 o6 o7) (pD p1 :: (rest ++ [D.lst (acc.map sD)])) :=
    ev_asg (i := 4) ((ev_F (ev_cons (r := .val (.box 0)) (b := pD p :: (rest ++ [D.lst (acc.map sD)])) rfl ev_nil)).trans e1)
  obtain ⟨pick, p2, e2, b1, b2, h2⟩ := ev_draw hd (ρ := S8 most (rest.length + 1) o3 (some (.int low)) o5 o6 o7) (rest := rest ++ [D.lst (acc.map sD)]) (m := mC (.int 8)) rfl rfl h1 (by omega) (by decide) (by decide)
  obtain ⟨low', e3, hlow⟩ := sb_low (p := p2) (rest := rest) (most := most) (o3 := o3) (o6 := o6) (o7 := o7) (acc := acc) ⟨b1, b2⟩ a1 hacc
  obtain ⟨r1, p3, e4, c1, c2, h3⟩ := ev_draw hd (ρ := S8 most (rest.length + 1) o3 (some (.int low')) (some (.int pick)) o6 o7) (rest := rest ++ [D.lst (acc.map sD)]) (m := mC (.int 10)) rfl rfl h2 (by omega) (by decide) (by decide)
  obtain ⟨r2, p4, e5, c3, c4, h4⟩ := ev_draw hd (ρ := S8 most (rest.length + 1) o3 (some (.int low')) (some (.int pick)) o6 o7) (rest := rest ++ [D.lst (acc.map sD)]) (m := mC (.int 1000)) rfl rfl h3 (by omega) (by decide) (by decide)
  obtain ⟨r3, p5, e6, c5, c6, h5⟩ := ev_draw hd (ρ := S8 most (rest.length + 1) o3 (some (.int low')) (some (.int pick)) o6 o7) (rest := rest ++ [D.lst (acc.map sD)]) (m := mC (.int 6)) rfl rfl h4 (by omega) (by decide) (by decide)
  have e7 : mLst (aCons (mC (.int 0)) (aCons (mC (.int 0)) (aCons (mC (.int 1)) (aCons (mC (.int 2)) (aCons (mF rd (aCons (mVar 0) (aCons (mC (.int 10)) aNil))) (aCons (mF rd (aCons (mVar 0) (aCons (mC (.int 1000)) aNil))) aNil)))))) (S8 most (rest.length + 1) o3 (some (.int low')) (some (.int pick)) o6 o7) (pD p2 :: (rest ++ [D.lst (acc.map sD)])) = .ok (.new (.lst [.int 0, .int 0, .int 1, .int 2, .int r1, .int r2])) (pD p4 :: (rest ++ [D.lst (acc.map sD)])) := by
    unfold mLst
    rw [ev_cons (r := .val (.int 0)) (b := pD p2 :: (rest ++ [D.lst (acc.map sD)])) rfl (ev_cons (r := .val (.int 0)) (b := pD p2 :: (rest ++ [D.lst (acc.map sD)])) rfl (ev_cons (r := .val (.int 1)) (b := pD p2 :: (rest ++ [D.lst (acc.map sD)])) rfl (ev_cons (r := .val (.int 2)) (b := pD p2 :: (rest ++ [D.lst (acc.map sD)])) rfl (ev_cons e4 (ev_cons e5 ev_nil)))))]
    rfl
  have e8 : ∃ x, 0 ≤ x ∧ mBin ixD (mLst (aCons (mC (.int 0)) (aCons (mC (.int 0)) (aCons (mC (.int 1)) (aCons (mC (.int 2)) (aCons (mF rd (aCons (mVar 0) (aCons (mC (.int 10)) aNil))) (aCons (mF rd (aCons (mVar 0) (aCons (mC (.int 1000)) aNil))) aNil))))))) (mF rd (aCons (mVar 0) (aCons (mC (.int 6)) aNil))) (S8 most (rest.length + 1) o3 (some (.int low')) (some (.int pick)) o6 o7) (pD p2 :: (rest ++ [D.lst (acc.map sD)])) = .ok (.val (.int x)) (pD p5 :: (rest ++ [D.lst (acc.map sD)])) := by
    rcases (show r3 = 0 ∨ r3 = 1 ∨ r3 = 2 ∨ r3 = 3 ∨ r3 = 4 ∨ r3 = 5 by omega) with rfl | rfl | rfl | rfl | rfl | rfl
    · exact ⟨0, by omega, (ev_bin e7 e6).trans rfl⟩
    · exact ⟨0, by omega, (ev_bin e7 e6).trans rfl⟩
    · exact ⟨1, by omega, (ev_bin e7 e6).trans rfl⟩
    · exact ⟨2, by omega, (ev_bin e7 e6).trans rfl⟩
    · exact ⟨r1, by omega, (ev_bin e7 e6).trans rfl⟩
    · exact ⟨r2, by omega, (ev_bin e7 e6).trans rfl⟩
  obtain ⟨x, hx, e8⟩ := e8
  have s4 : mAsg (mBin addI (mVar 4) (mBin ixD (mLst (aCons (mC (.int 0)) (aCons (mC (.int 0)) (aCons (mC (.int 1)) (aCons (mC (.int 2)) (aCons (mF rd (aCons (mVar 0) (aCons (mC (.int 10)) aNil))) (aCons (mF rd (aCons (mVar 0) (aCons (mC (.int 1000)) aNil))) aNil))))))) (mF rd (aCons (mVar 0) (aCons (mC (.int 6)) aNil))))) (gN 6) (S8 most (rest.length + 1) o3 (some (.int low')) (some (.int pick)) o6 o7) (pD p2 :: (rest ++ [D.lst (acc.map sD)])) = .nx (S8 most (rest.length + 1) o3 (some (.int low')) (some (.int pick)) (some (.int (low' + x))) o7) (pD p5 :: (rest ++ [D.lst (acc.map sD)])) :=
    ev_asg (i := 6) (ev_addI (i := low') (b := pD p2 :: (rest ++ [D.lst (acc.map sD)])) rfl e8)
  obtain ⟨high, hhigh⟩ : ∃ h : Int, h = if (999999999960 : Int) < low' + x then 999999999960 else low' + x := ⟨_, rfl⟩
  obtain ⟨mn, hmn⟩ : ∃ h : Int, h = if high < low' then high else low' := ⟨_, rfl⟩
  have hh : -1000000000000 ≤ high := by rw [hhigh]; split <;> omega
  have hm : -1000000000000 ≤ mn ∧ mn ≤ high := by rw [hmn]; split <;> omega
  have e10 : mBin subI (mBin powI (mC (.int 10)) (mC (.int 12))) (mC (.int 40)) (S8 most (rest.length + 1) o3 (some (.int low')) (some (.int pick)) (some (.int (low' + x))) o7) (pD p5 :: (rest ++ [D.lst (acc.map sD)])) = .ok (.val (.int 999999999960)) (pD p5 :: (rest ++ [D.lst (acc.map sD)])) :=
    ev_subI (i := 1000000000000) (j := 40) (b := pD p5 :: (rest ++ [D.lst (acc.map sD)])) (ev_pow (a := 10) (b := 12) (by decide)) rfl
  have s5 : mAsg (mCB (un2 min2) (aCons (mVar 6) (aCons (mBin subI (mBin powI (mC (.int 10)) (mC (.int 12))) (mC (.int 40))) aNil))) (gN 6) (S8 most (rest.length + 1) o3 (some (.int low')) (some (.int pick)) (some (.int (low' + x))) o7) (pD p5 :: (rest ++ [D.lst (acc.map sD)])) = .nx (S8 most (rest.length + 1) o3 (some (.int low')) (some (.int pick)) (some (.int high)) o7) (pD p5 :: (rest ++ [D.lst (acc.map sD)])) :=
    by rw [hhigh]; exact ev_asg (i := 6) (min_ev (i := low' + x) (j := 999999999960) (b := pD p5 :: (rest ++ [D.lst (acc.map sD)])) rfl e10)
  have s6 : mAsg (mTup (aCons (mCB (un2 min2) (aCons (mVar 4) (aCons (mVar 6) aNil))) (aCons (mVar 6) aNil))) (gN 7) (S8 most (rest.length + 1) o3 (some (.int low')) (some (.int pick)) (some (.int high)) o7) (pD p5 :: (rest ++ [D.lst (acc.map sD)])) = .nx (S8 most (rest.length + 1) o3 (some (.int low')) (some (.int pick)) (some (.int high)) (some (sD (some mn, some high)))) (pD p5 :: (rest ++ [D.lst (acc.map sD)])) := by rw [hmn]; rfl
  obtain ⟨pk, p6, e9, d1, d2, h6⟩ := ev_draw hd (ρ := S8 most (rest.length + 1) o3 (some (.int low')) (some (.int pick)) (some (.int high)) (some (sD (some mn, some high)))) (rest := rest ++ [D.lst (acc.map sD)]) (m := mC (.int 9)) rfl rfl h5 (by omega) (by decide) (by decide)
  have last : ∃ s, good s ∧ mSeq (mIfS (mTest (mBin eqD (mVar 5) (mC (.int 0)))) (mAsg (mTup (aCons (mC .non) (aCons (mVar 6) aNil))) (gN 7)) mSkip)
   (mSeq (mIfS (mTest (mBin eqD (mVar 5) (mC (.int 1)))) (mAsg (mTup (aCons (mCB (un2 min2) (aCons (mVar 4) (aCons (mVar 6) aNil))) (aCons (mC .non) aNil))) (gN 7)) mSkip)
   (mExpr (mBm appD (mVar 2) (aCons (mVar 7) aNil)))) (S8 most (rest.length + 1) o3 (some (.int low')) (some (.int pk)) (some (.int high)) (some (sD (some mn, some high)))) (pD p6 :: (rest ++ [D.lst (acc.map sD)])) = .nx (S8 most (rest.length + 1) o3 (some (.int low')) (some (.int pk)) (some (.int high)) (some (sD s))) (pD p6 :: (rest ++ [D.lst ((acc ++ [s]).map sD)])) := by
    have app : ∀ s : Stretch, mExpr (mBm appD (mVar 2) (aCons (mVar 7) aNil)) (S8 most (rest.length + 1) o3 (some (.int low')) (some (.int pk)) (some (.int high)) (some (sD s))) (pD p6 :: (rest ++ [D.lst (acc.map sD)])) = .nx (S8 most (rest.length + 1) o3 (some (.int low')) (some (.int pk)) (some (.int high)) (some (sD s))) (pD p6 :: (rest ++ [D.lst ((acc ++ [s]).map sD)])) := fun s => by
      rw [ev_app (n := rest.length + 1) (xs := acc.map sD) (d := sD s) (b := pD p6 :: (rest ++ [D.lst (acc.map sD)])) rfl get_p rfl get_p (by simpa using hl), set_p]
      simp
    have t0 : ∀ o7, mTest (mBin eqD (mVar 5) (mC (.int 0))) (S8 most (rest.length + 1) o3 (some (.int low')) (some (.int pk)) (some (.int high)) o7) (pD p6 :: (rest ++ [D.lst (acc.map sD)])) = .ok (pk == 0) (pD p6 :: (rest ++ [D.lst (acc.map sD)])) := fun _ => rfl
    have t1 : ∀ o7, mTest (mBin eqD (mVar 5) (mC (.int 1))) (S8 most (rest.length + 1) o3 (some (.int low')) (some (.int pk)) (some (.int high)) o7) (pD p6 :: (rest ++ [D.lst (acc.map sD)])) = .ok (pk == 1) (pD p6 :: (rest ++ [D.lst (acc.map sD)])) := fun _ => rfl
    by_cases q0 : pk = 0
    · refine ⟨(none, some high), ⟨fun l h e => (by cases e), fun e h => by rcases h with h | h <;> cases h; exact hh⟩, ?_⟩
      have z0 : (pk == 0) = true := by rw [q0]; rfl
      have z1 : (pk == 1) = false := by rw [q0]; rfl
      have u0 : mIfS (mTest (mBin eqD (mVar 5) (mC (.int 0)))) (mAsg (mTup (aCons (mC .non) (aCons (mVar 6) aNil))) (gN 7)) mSkip (S8 most (rest.length + 1) o3 (some (.int low')) (some (.int pk)) (some (.int high)) (some (sD (some mn, some high)))) (pD p6 :: (rest ++ [D.lst (acc.map sD)])) = .nx (S8 most (rest.length + 1) o3 (some (.int low')) (some (.int pk)) (some (.int high)) (some (sD (none, some high)))) (pD p6 :: (rest ++ [D.lst (acc.map sD)])) := by
        rw [ev_ifT ((t0 _).trans (congrArg (Out.ok · _) z0))]; rfl
      rw [ev_seq u0, ev_seq (ev_no ((t1 _).trans (congrArg (Out.ok · _) z1)))]
      exact app _
    · have z0 : (pk == 0) = false := beq_eq_false_iff_ne.mpr q0
      by_cases q1 : pk = 1
      · refine ⟨(some mn, none), ⟨fun l h e e2 => (by cases e2), fun e h => by rcases h with h | h <;> cases h; exact hm.1⟩, ?_⟩
        have z1 : (pk == 1) = true := by rw [q1]; rfl
        have u1 : mIfS (mTest (mBin eqD (mVar 5) (mC (.int 1)))) (mAsg (mTup (aCons (mCB (un2 min2) (aCons (mVar 4) (aCons (mVar 6) aNil))) (aCons (mC .non) aNil))) (gN 7)) mSkip (S8 most (rest.length + 1) o3 (some (.int low')) (some (.int pk)) (some (.int high)) (some (sD (some mn, some high)))) (pD p6 :: (rest ++ [D.lst (acc.map sD)])) = .nx (S8 most (rest.length + 1) o3 (some (.int low')) (some (.int pk)) (some (.int high)) (some (sD (some mn, none)))) (pD p6 :: (rest ++ [D.lst (acc.map sD)])) := by
          rw [ev_ifT ((t1 _).trans (congrArg (Out.ok · _) z1)), hmn]; rfl
        rw [ev_seq (ev_no ((t0 _).trans (congrArg (Out.ok · _) z0))), ev_seq u1]
        exact app _
      · have z1 : (pk == 1) = false := beq_eq_false_iff_ne.mpr q1
        refine ⟨(some mn, some high), ⟨fun l h e e2 => (by cases e; cases e2; exact hm.2), fun e h => h.elim (fun h => by cases h; exact hm.1) fun h => by cases h; exact hh⟩, ?_⟩
        rw [ev_seq (ev_no ((t0 _).trans (congrArg (Out.ok · _) z0))), ev_seq (ev_no ((t1 _).trans (congrArg (Out.ok · _) z1)))]
        exact app _
  obtain ⟨s, gs, last⟩ := last
  refine ⟨s, p6, some (.int low'), some (.int pk), some (.int high), ?_, gs, h6.mono hk8⟩
  unfold m_sb
  have s2 : mAsg (mF rd (aCons (mVar 0) (aCons (mC (.int 8)) aNil))) (gN 5) (S8 most (rest.length + 1) o3 (some (.int low)) o5 o6 o7) (pD p1 :: (rest ++ [D.lst (acc.map sD)])) = .nx (S8 most (rest.length + 1) o3 (some (.int low)) (some (.int pick)) o6 o7) (pD p2 :: (rest ++ [D.lst (acc.map sD)])) := ev_asg (i := 5) e2
  have s9 : mAsg (mF rd (aCons (mVar 0) (aCons (mC (.int 9)) aNil))) (gN 5) (S8 most (rest.length + 1) o3 (some (.int low')) (some (.int pick)) (some (.int high)) (some (sD (some mn, some high)))) (pD p5 :: (rest ++ [D.lst (acc.map sD)])) = .nx (S8 most (rest.length + 1) o3 (some (.int low')) (some (.int pk)) (some (.int high)) (some (sD (some mn, some high)))) (pD p6 :: (rest ++ [D.lst (acc.map sD)])) := ev_asg (i := 5) e9
  rw [ev_seq s1, ev_seq s2, ev_seq e3, ev_seq s4, ev_seq s5, ev_seq s6, ev_seq s9, last]
/-- so many turns -/
theorem sb_loop (hd : Drw rd) (he : Enw re) : ∀ (ds : List D) (acc : List Stretch) (p : Pn) (k : Int) (o3 o4 o5 o6 o7 : Option D), PO p k → k + 8 * ds.length < 999900 → (∀ s ∈ acc, good s) → acc.length + ds.length ≤ 1000000 →
    ∃ (st : List Stretch) (p' : Pn) (q3 q4 q5 q6 q7 : Option D), loop (gN 3) (m_sb rd re) ds (S8 most (rest.length + 1) o3 o4 o5 o6 o7) (pD p :: (rest ++ [D.lst (acc.map sD)])) = .nx (S8 most (rest.length + 1) q3 q4 q5 q6 q7) (pD p' :: (rest ++ [D.lst (st.map sD)])) ∧ (∀ s ∈ st, good s) ∧ st.length = acc.length + ds.length ∧ PO p' (k + 8 * ds.length)
  | [], acc, p, k, o3, o4, o5, o6, o7, hp, _, ha, _ => ⟨acc, p, o3, o4, o5, o6, o7, rfl, ha, rfl, by simpa using hp⟩
  | d :: ds, acc, p, k, o3, o4, o5, o6, o7, hp, hk, ha, hl => by
    rw [List.length_cons] at hk hl
    obtain ⟨s, p1, q4, q5, q6, e1, g1, h1⟩ := sb_ok (rest := rest) (most := most) (o3 := some d) (o4 := o4) (o5 := o5) (o6 := o6) (o7 := o7) hd he hp (by omega) ha (by unfold sizeLine; omega)
    obtain ⟨st, p2, z3, z4, z5, z6, z7, e2, g2, l2, h2⟩ := sb_loop hd he ds (acc ++ [s]) p1 (k + 8) (some d) q4 q5 q6 (some (sD s)) h1 (by omega) (fun x hx => (List.mem_append.mp hx).elim (ha x) fun z => by rw [List.mem_singleton.mp z]; exact g1) (by rw [List.length_append, List.length_singleton]; omega)
    refine ⟨st, p2, z3, z4, z5, z6, z7, ?_, g2, by rw [l2, List.length_append, List.length_singleton, List.length_cons]; omega, h2.mono (by rw [List.length_cons]; omega)⟩
    rw [loop_nx (ρ1 := S8 most (rest.length + 1) (some d) o4 o5 o6 o7) rfl e1]
    exact e2
end
abbrev Cr (rest : List D) : Prop := ∀ p : Pn, Cb (pD p :: rest)
theorem leave_new {n k : Nat} {m : MS} {ds : List D} {p p' : Pn} {rest : List D} {d : D} (h : m (ds.map some ++ List.replicate (n - ds.length) none) (pD p :: rest) = .rt (.val (.box (rest.length + 1))) (pD p' :: (rest ++ [d]))) (hr : Cr rest) (hcd : d.cl (rest.length + 1) = true) (hk : ds.length = k := by rfl) : ar k (body n m) ds (pD p :: rest) = .ok (.new d) (pD p' :: rest) := by
  have e := body_nw (ex := []) h (by simp) rfl get_p (by simpa using hr p') hcd hk
  simpa using e
def Stw (rs : MF) : Prop := ∀ (p : Pn) (k : Int) (most : Nat) (rest : List D), PO p k → most ≤ 6 → k < 999000 → Cr rest →
  ∃ (st : List Stretch) (p' : Pn), rs [.box 0, .int most] (pD p :: rest) = .ok (.new (.lst (st.map sD))) (pD p' :: rest) ∧ (∀ s ∈ st, good s) ∧ st.length ≤ most ∧ PO p' (k + 50)
theorem st_ok {rd re : MF} (hd : Drw rd) (he : Enw re) : Stw (ar 2 (body 8 (m_st rd re))) := by
  intro p k most rest hp hm hk hr
  have a1 : mBox (mLst aNil) 2 [some (.box 0), some (.int most), none, none, none, none, none, none] (pD p :: rest) = .nx (S8 (.int most) (rest.length + 1) none none none none none) (pD p :: (rest ++ [D.lst (([] : List Stretch).map sD)])) := ev_box (m := mLst aNil) (i := 2) (d := .lst []) (b := pD p :: rest) rfl
  obtain ⟨r, p1, e1, b1, b2, h1⟩ := ev_draw hd (ρ := S8 (.int most) (rest.length + 1) none none none none none) (rest := rest ++ [D.lst (([] : List Stretch).map sD)]) (m := mBin addI (mVar 1) (mC (.int 1))) (many := (most : Int) + 1) rfl rfl hp (by omega) (by omega) (by omega)
  have e2 : iRng1M (mF rd (aCons (mVar 0) (aCons (mBin addI (mVar 1) (mC (.int 1))) aNil))) (S8 (.int most) (rest.length + 1) none none none none none) (pD p :: (rest ++ [D.lst (([] : List Stretch).map sD)])) = .ok (rng 0 r.toNat) (pD p1 :: (rest ++ [D.lst (([] : List Stretch).map sD)])) := by
    unfold iRng1M
    rw [e1]
    show (if -(2 ^ 62) ≤ r ∧ r < 2 ^ 62 then Out.ok (rng 0 r.toNat) (pD p1 :: (rest ++ [D.lst (([] : List Stretch).map sD)])) else .stk) = _
    rw [if_pos ⟨by omega, by omega⟩]
  have hlen : (rng 0 r.toNat).length = r.toNat := rng_len
  obtain ⟨st, p2, q3, q4, q5, q6, q7, e3, g3, l3, h3⟩ := sb_loop (rest := rest) (most := .int most) hd he (rng 0 r.toNat) [] p1 (k + 1) none none none none none h1 (by rw [hlen]; omega) (by simp) (by rw [hlen]; simp; omega)
  refine ⟨st, p2, leave_new ?_ hr (cls_s _ _), g3, by rw [l3, hlen]; simp; omega, h3.mono (by rw [hlen]; omega)⟩
  show m_st rd re [some (.box 0), some (.int most), none, none, none, none, none, none] (pD p :: rest) = _
  unfold m_st
  rw [ev_seq a1, ev_seq ((ev_for e2).trans e3)]
  rfl
theorem Stw_a (CA : Ly) : Stw (r__law_stretches CA) := st_ok (Drw_a CA) (Enw_a CA)
theorem Stw_b (CA : Ly) : Stw (r__law_stretches_b CA) := st_ok (Drw_b CA) (Enw_b CA)
end K0

set_option Elab.async false
set_option linter.all false
set_option maxRecDepth 100000
set_option maxHeartbeats 4000000
/-! K14: stretches near others; sets made of stretches. -/
namespace DL
open PySem
theorem ev_CM {u : Addr} {mf : MF} {a : MA} {ρ : Sl} {bx b : List D} {ds : List D} (h : a ρ bx = .ok ds b) : mCM u mf (mC (.adr u)) a ρ bx = mf (.adr u :: ds) b := by
  show (if u = u then (a ρ bx).bind fun ds b1 => mf (.adr u :: ds) b1 else .stk) = _
  rw [if_pos rfl, h]
  rfl
theorem while_F {t : MB} {m : MS} {k : Nat} {ρ : Sl} {bx b : List D} (h : t ρ bx = .ok false b) : mWhile t m (k + 1) ρ bx = .nx ρ b := by
  unfold mWhile; rw [h]; rfl
theorem while_T {t : MB} {m : MS} {k : Nat} {ρ ρ' : Sl} {bx b b' : List D} (h : t ρ bx = .ok true b) (h2 : m ρ b = .nx ρ' b') : mWhile t m (k + 1) ρ bx = mWhile t m k ρ' b' := by
  rw [mWhile]
  simp only [h, liftE, if_true, h2]
theorem er_map {α β : Type} (f : α → β) : ∀ (l : List α) (j : Nat), (l.map f).eraseIdx j = (l.eraseIdx j).map f
  | [], _ => rfl
  | _ :: _, 0 => rfl
  | a :: l, j + 1 => by
    rw [List.map_cons, List.eraseIdx_cons_succ, List.eraseIdx_cons_succ, List.map_cons, er_map f l j]
theorem er_mem {α : Type} : ∀ (l : List α) (j : Nat) (h : j < l.length) (x : α), x ∈ l ↔ x = l[j] ∨ x ∈ l.eraseIdx j
  | a :: l, 0, _, x => by simp
  | a :: l, j + 1, h, x => by
    have h' : j < l.length := by simpa using h
    rw [List.eraseIdx_cons_succ, List.mem_cons, List.mem_cons, List.getElem_cons_succ, er_mem l j h' x]
    exact or_left_comm
end DL
namespace K0
open PySem DL
/-! ### near -/
abbrev N6 (y : D) (n : Nat) (l h : Option Int) (pick : Int) : Sl := [some (.box 0), some y, some (.box n), some (oD l), some (oD h), some (.int pick)]
def m_n0 : MS := mIfS (mTest (mBin eqD (mVar 5) (mC (.int 0)))) (mExpr (mBm appD (mVar 2) (aCons (mTup (aCons (mVar 3) (aCons (mVar 4) aNil))) aNil))) mSkip
def m_n1 (rd : MF) : MS := mIfS (mAnd (mTest (mBin eqD (mVar 5) (mC (.int 1)))) (mAnd (mTest (mUn notN (mVar 4))) (mTest (mBin ltI (mVar 4) (mBin powI (mC (.int 10)) (mC (.int 11))))))) (mExpr (mBm appD (mVar 2) (aCons (mTup (aCons (mBin subI (mBin addI (mVar 4) (mC (.int 1))) (mF rd (aCons (mVar 0) (aCons (mC (.int 2)) aNil)))) (aCons (mBin addI (mBin addI (mVar 4) (mC (.int 1))) (mF rd (aCons (mVar 0) (aCons (mC (.int 3)) aNil)))) aNil))) aNil))) mSkip
def m_n2 (rd : MF) : MS := mIfS (mAnd (mTest (mBin eqD (mVar 5) (mC (.int 2)))) (mAnd (mTest (mUn notN (mVar 3))) (mTest (mBin gtI (mVar 3) (mBin subI (mC (.int 0)) (mBin powI (mC (.int 10)) (mC (.int 11)))))))) (mExpr (mBm appD (mVar 2) (aCons (mTup (aCons (mC .non) (aCons (mBin subI (mVar 3) (mF rd (aCons (mVar 0) (aCons (mC (.int 2)) aNil)))) aNil))) aNil))) mSkip
def m_n3 : MS := mIfS (mAnd (mTest (mBin eqD (mVar 5) (mC (.int 3)))) (mAnd (mTest (mUn notN (mVar 3))) (mTest (mUn notN (mVar 4))))) (mExpr (mBm appD (mVar 2) (aCons (mTup (aCons (mBin addI (mVar 3) (mBin divW (mBin subI (mVar 4) (mVar 3)) (mC (.int 2)))) (aCons (mVar 4) aNil))) aNil))) mSkip
def m_nb (rd : MF) : MS := mSeq (mAsg (mF rd (aCons (mVar 0) (aCons (mC (.int 6)) aNil))) (gN 5)) (mSeq m_n0 (mSeq (m_n1 rd) (mSeq (m_n2 rd) m_n3)))
def m_nr (rd rs : MF) : MS := (mSeq (mBox (mF rs (aCons (mVar 0) (aCons (mC (.int 4)) aNil))) 2)
  (mSeq (mFor (iSeq (mVar 1)) (gTup [(gN 3), (gN 4)]) (m_nb rd))
  (mRet (mVar 2))))
theorem nr_b (CA : Ly) : r__law_near CA = ar 2 (body 6 (m_nr (r__law_draw_b CA) (r__law_stretches_b CA))) := rfl
section
variable {rd rs : MF} {p : Pn} {k : Int} {rest : List D} {acc : List Stretch} {y : D} {l h : Option Int} {pick : Int}
theorem app_n {s : Stretch} {p' : Pn} {ma : MA} {ρ : Sl} (h2 : ρ[2]? = some (some (.box (rest.length + 1)))) (ha : ma ρ (pD p :: (rest ++ [D.lst (acc.map sD)])) = .ok [sD s] (pD p' :: (rest ++ [D.lst (acc.map sD)]))) (hl : acc.length < sizeLine) :
    mExpr (mBm appD (mVar 2) ma) ρ (pD p :: (rest ++ [D.lst (acc.map sD)])) = .nx ρ (pD p' :: (rest ++ [D.lst ((acc ++ [s]).map sD)])) := by
  have e0 : mVar 2 ρ (pD p :: (rest ++ [D.lst (acc.map sD)])) = .ok (.val (.box (rest.length + 1))) (pD p :: (rest ++ [D.lst (acc.map sD)])) := by unfold mVar; rw [h2]
  rw [ev_app e0 get_p ha get_p (by simpa using hl), set_p]
  simp
theorem n0_ok (hg : good (l, h)) (hl : acc.length < sizeLine) : ∃ add : List Stretch, m_n0 (N6 y (rest.length + 1) l h pick) (pD p :: (rest ++ [D.lst (acc.map sD)])) = .nx (N6 y (rest.length + 1) l h pick) (pD p :: (rest ++ [D.lst ((acc ++ add).map sD)])) ∧ (∀ s ∈ add, good s) ∧ add.length ≤ 1 ∧ (pick ≠ 0 → add = []) := by
  have t : mTest (mBin eqD (mVar 5) (mC (.int 0))) (N6 y (rest.length + 1) l h pick) (pD p :: (rest ++ [D.lst (acc.map sD)])) = .ok (pick == 0) (pD p :: (rest ++ [D.lst (acc.map sD)])) := rfl
  unfold m_n0
  by_cases q : pick = 0
  · rw [show (pick == 0) = true by rw [q]; rfl] at t
    refine ⟨[(l, h)], ?_, fun s hs => by rw [List.mem_singleton.mp hs]; exact hg, by simp, fun z => absurd q z⟩
    rw [ev_ifT t]
    exact app_n (s := (l, h)) rfl rfl hl
  · rw [show (pick == 0) = false from beq_eq_false_iff_ne.mpr q] at t
    exact ⟨[], by rw [ev_no t, List.append_nil], by simp, by simp, fun _ => rfl⟩
theorem n1_ok (hd : Drw rd) (hp : PO p k) (hk : k < 999900) (hg : good (l, h)) (hl : acc.length < sizeLine) : ∃ (add : List Stretch) (p' : Pn), m_n1 rd (N6 y (rest.length + 1) l h pick) (pD p :: (rest ++ [D.lst (acc.map sD)])) = .nx (N6 y (rest.length + 1) l h pick) (pD p' :: (rest ++ [D.lst ((acc ++ add).map sD)])) ∧ (∀ s ∈ add, good s) ∧ add.length ≤ 1 ∧ (pick ≠ 1 → add = []) ∧ PO p' (k + 2) := by
  have t : mTest (mBin eqD (mVar 5) (mC (.int 1))) (N6 y (rest.length + 1) l h pick) (pD p :: (rest ++ [D.lst (acc.map sD)])) = .ok (pick == 1) (pD p :: (rest ++ [D.lst (acc.map sD)])) := rfl
  have no : ∀ b, mAnd (mTest (mBin eqD (mVar 5) (mC (.int 1)))) (mAnd (mTest (mUn notN (mVar 4))) (mTest (mBin ltI (mVar 4) (mBin powI (mC (.int 10)) (mC (.int 11)))))) (N6 y (rest.length + 1) l h pick) (pD p :: (rest ++ [D.lst (acc.map sD)])) = .ok b (pD p :: (rest ++ [D.lst (acc.map sD)])) → b = false → ∃ (add : List Stretch) (p' : Pn), m_n1 rd (N6 y (rest.length + 1) l h pick) (pD p :: (rest ++ [D.lst (acc.map sD)])) = .nx (N6 y (rest.length + 1) l h pick) (pD p' :: (rest ++ [D.lst ((acc ++ add).map sD)])) ∧ (∀ s ∈ add, good s) ∧ add.length ≤ 1 ∧ (pick ≠ 1 → add = []) ∧ PO p' (k + 2) := fun b e z => by
    rw [z] at e
    exact ⟨[], p, by unfold m_n1; rw [ev_no e, List.append_nil], by simp, by simp, fun _ => rfl, hp.mono (by omega)⟩
  by_cases q : pick = 1
  · rw [show (pick == 1) = true by rw [q]; rfl] at t
    cases h with
    | none => exact no false ((ev_andT t).trans (ev_andF rfl)) rfl
    | some v =>
      have t2 : mTest (mBin ltI (mVar 4) (mBin powI (mC (.int 10)) (mC (.int 11)))) (N6 y (rest.length + 1) l (some v) pick) (pD p :: (rest ++ [D.lst (acc.map sD)])) = .ok (decide (v < (10 : Int) ^ (11 : Int).toNat)) (pD p :: (rest ++ [D.lst (acc.map sD)])) :=
        ev_test ((ev_bin (r := .val (.int v)) (b := pD p :: (rest ++ [D.lst (acc.map sD)])) rfl (ev_pow (a := 10) (b := 11) (by decide))).trans rfl)
      have t3 := (ev_andT (m' := mAnd (mTest (mUn notN (mVar 4))) (mTest (mBin ltI (mVar 4) (mBin powI (mC (.int 10)) (mC (.int 11)))))) t).trans ((ev_andT (b := pD p :: (rest ++ [D.lst (acc.map sD)])) rfl).trans t2)
      cases z : decide (v < (10 : Int) ^ (11 : Int).toNat) with
      | false => rw [z] at t3; exact no _ t3 rfl
      | true =>
        rw [z] at t3
        have hv := hg.lo v (.inr rfl)
        obtain ⟨r, p1, e1, b1, b2, h1⟩ := ev_draw hd (ρ := N6 y (rest.length + 1) l (some v) pick) (rest := rest ++ [D.lst (acc.map sD)]) (m := mC (.int 2)) rfl rfl hp (by omega) (by decide) (by decide)
        obtain ⟨r2, p2, e2, b3, b4, h2⟩ := ev_draw hd (ρ := N6 y (rest.length + 1) l (some v) pick) (rest := rest ++ [D.lst (acc.map sD)]) (m := mC (.int 3)) rfl rfl h1 (by omega) (by decide) (by decide)
        refine ⟨[(some (v + 1 - r), some (v + 1 + r2))], p2, ?_, fun s hs => ?_, by simp, fun z => absurd q z, h2.mono (by omega)⟩
        · unfold m_n1
          rw [ev_ifT t3]
          refine app_n (s := (some (v + 1 - r), some (v + 1 + r2))) rfl ?_ hl
          have e3 : mTup (aCons (mBin subI (mBin addI (mVar 4) (mC (.int 1))) (mF rd (aCons (mVar 0) (aCons (mC (.int 2)) aNil)))) (aCons (mBin addI (mBin addI (mVar 4) (mC (.int 1))) (mF rd (aCons (mVar 0) (aCons (mC (.int 3)) aNil)))) aNil)) (N6 y (rest.length + 1) l (some v) pick) (pD p :: (rest ++ [D.lst (acc.map sD)])) = .ok (.val (sD (some (v + 1 - r), some (v + 1 + r2)))) (pD p2 :: (rest ++ [D.lst (acc.map sD)])) := by
            unfold mTup
            rw [ev_cons (ev_subI (i := v + 1) (b := pD p :: (rest ++ [D.lst (acc.map sD)])) rfl e1) (ev_cons (ev_addI (i := v + 1) (b := pD p1 :: (rest ++ [D.lst (acc.map sD)])) rfl e2) ev_nil)]
            rfl
          exact ev_cons e3 ev_nil
        · rw [List.mem_singleton.mp hs]
          exact ⟨fun a b ha hb => by cases ha; cases hb; omega, fun e he => he.elim (fun z => by cases z; omega) fun z => by cases z; omega⟩
  · rw [show (pick == 1) = false from beq_eq_false_iff_ne.mpr q] at t
    exact no _ (ev_andF t) rfl
theorem n2_ok (hd : Drw rd) (hp : PO p k) (hk : k < 999900) (hg : good (l, h)) (hl : acc.length < sizeLine) : ∃ (add : List Stretch) (p' : Pn), m_n2 rd (N6 y (rest.length + 1) l h pick) (pD p :: (rest ++ [D.lst (acc.map sD)])) = .nx (N6 y (rest.length + 1) l h pick) (pD p' :: (rest ++ [D.lst ((acc ++ add).map sD)])) ∧ (∀ s ∈ add, good s) ∧ add.length ≤ 1 ∧ (pick ≠ 2 → add = []) ∧ PO p' (k + 2) := by
  have t : mTest (mBin eqD (mVar 5) (mC (.int 2))) (N6 y (rest.length + 1) l h pick) (pD p :: (rest ++ [D.lst (acc.map sD)])) = .ok (pick == 2) (pD p :: (rest ++ [D.lst (acc.map sD)])) := rfl
  have no : ∀ b, mAnd (mTest (mBin eqD (mVar 5) (mC (.int 2)))) (mAnd (mTest (mUn notN (mVar 3))) (mTest (mBin gtI (mVar 3) (mBin subI (mC (.int 0)) (mBin powI (mC (.int 10)) (mC (.int 11))))))) (N6 y (rest.length + 1) l h pick) (pD p :: (rest ++ [D.lst (acc.map sD)])) = .ok b (pD p :: (rest ++ [D.lst (acc.map sD)])) → b = false → ∃ (add : List Stretch) (p' : Pn), m_n2 rd (N6 y (rest.length + 1) l h pick) (pD p :: (rest ++ [D.lst (acc.map sD)])) = .nx (N6 y (rest.length + 1) l h pick) (pD p' :: (rest ++ [D.lst ((acc ++ add).map sD)])) ∧ (∀ s ∈ add, good s) ∧ add.length ≤ 1 ∧ (pick ≠ 2 → add = []) ∧ PO p' (k + 2) := fun b e z => by
    rw [z] at e
    exact ⟨[], p, by unfold m_n2; rw [ev_no e, List.append_nil], by simp, by simp, fun _ => rfl, hp.mono (by omega)⟩
  by_cases q : pick = 2
  · rw [show (pick == 2) = true by rw [q]; rfl] at t
    cases l with
    | none => exact no false ((ev_andT t).trans (ev_andF rfl)) rfl
    | some v =>
      have t2 : mTest (mBin gtI (mVar 3) (mBin subI (mC (.int 0)) (mBin powI (mC (.int 10)) (mC (.int 11))))) (N6 y (rest.length + 1) (some v) h pick) (pD p :: (rest ++ [D.lst (acc.map sD)])) = .ok (decide (0 - (10 : Int) ^ (11 : Int).toNat < v)) (pD p :: (rest ++ [D.lst (acc.map sD)])) :=
        ev_test ((ev_bin (r := .val (.int v)) (b := pD p :: (rest ++ [D.lst (acc.map sD)])) rfl (ev_subI (i := 0) (b := pD p :: (rest ++ [D.lst (acc.map sD)])) rfl (ev_pow (a := 10) (b := 11) (by decide)))).trans rfl)
      have t3 := (ev_andT (m' := mAnd (mTest (mUn notN (mVar 3))) (mTest (mBin gtI (mVar 3) (mBin subI (mC (.int 0)) (mBin powI (mC (.int 10)) (mC (.int 11))))))) t).trans ((ev_andT (b := pD p :: (rest ++ [D.lst (acc.map sD)])) rfl).trans t2)
      cases z : decide (0 - (10 : Int) ^ (11 : Int).toNat < v) with
      | false => rw [z] at t3; exact no _ t3 rfl
      | true =>
        rw [z] at t3
        have hv : -100000000000 < v := by
          have := of_decide_eq_true z
          have e : (0 - (10 : Int) ^ (11 : Int).toNat) = -100000000000 := by decide
          rw [e] at this; exact this
        obtain ⟨r, p1, e1, b1, b2, h1⟩ := ev_draw hd (ρ := N6 y (rest.length + 1) (some v) h pick) (rest := rest ++ [D.lst (acc.map sD)]) (m := mC (.int 2)) rfl rfl hp (by omega) (by decide) (by decide)
        refine ⟨[(none, some (v - r))], p1, ?_, fun s hs => ?_, by simp, fun z => absurd q z, h1.mono (by omega)⟩
        · unfold m_n2
          rw [ev_ifT t3]
          refine app_n (s := (none, some (v - r))) rfl ?_ hl
          have e3 : mTup (aCons (mC .non) (aCons (mBin subI (mVar 3) (mF rd (aCons (mVar 0) (aCons (mC (.int 2)) aNil)))) aNil)) (N6 y (rest.length + 1) (some v) h pick) (pD p :: (rest ++ [D.lst (acc.map sD)])) = .ok (.val (sD (none, some (v - r)))) (pD p1 :: (rest ++ [D.lst (acc.map sD)])) := by
            unfold mTup
            rw [ev_cons (r := .val .non) (b := pD p :: (rest ++ [D.lst (acc.map sD)])) rfl (ev_cons (ev_subI (i := v) (b := pD p :: (rest ++ [D.lst (acc.map sD)])) rfl e1) ev_nil)]
            rfl
          exact ev_cons e3 ev_nil
        · rw [List.mem_singleton.mp hs]
          exact ⟨fun a b ha hb => (by cases ha), fun e he => he.elim (fun z => by cases z) fun z => by cases z; omega⟩
  · rw [show (pick == 2) = false from beq_eq_false_iff_ne.mpr q] at t
    exact no _ (ev_andF t) rfl
theorem n3_ok (hg : good (l, h)) (hl : acc.length < sizeLine) : ∃ add : List Stretch, m_n3 (N6 y (rest.length + 1) l h pick) (pD p :: (rest ++ [D.lst (acc.map sD)])) = .nx (N6 y (rest.length + 1) l h pick) (pD p :: (rest ++ [D.lst ((acc ++ add).map sD)])) ∧ (∀ s ∈ add, good s) ∧ add.length ≤ 1 ∧ (pick ≠ 3 → add = []) := by
  have t : mTest (mBin eqD (mVar 5) (mC (.int 3))) (N6 y (rest.length + 1) l h pick) (pD p :: (rest ++ [D.lst (acc.map sD)])) = .ok (pick == 3) (pD p :: (rest ++ [D.lst (acc.map sD)])) := rfl
  unfold m_n3
  by_cases q : pick = 3
  · rw [show (pick == 3) = true by rw [q]; rfl] at t
    cases l with
    | none => exact ⟨[], by rw [ev_no ((ev_andT t).trans (ev_andF rfl)), List.append_nil], by simp, by simp, fun _ => rfl⟩
    | some v => cases h with
      | none => exact ⟨[], by rw [ev_no ((ev_andT t).trans ((ev_andT rfl).trans rfl)), List.append_nil], by simp, by simp, fun _ => rfl⟩
      | some u =>
        have hvu := hg.ok v u rfl rfl
        have hv := hg.lo v (.inl rfl)
        refine ⟨[(some (v + (u - v) / 2), some u)], ?_, fun s hs => ?_, by simp, fun z => absurd q z⟩
        · rw [ev_ifT ((ev_andT t).trans ((ev_andT rfl).trans rfl))]
          refine app_n (s := (some (v + (u - v) / 2), some u)) rfl ?_ hl
          have e3 : mTup (aCons (mBin addI (mVar 3) (mBin divW (mBin subI (mVar 4) (mVar 3)) (mC (.int 2)))) (aCons (mVar 4) aNil)) (N6 y (rest.length + 1) (some v) (some u) pick) (pD p :: (rest ++ [D.lst (acc.map sD)])) = .ok (.val (sD (some (v + (u - v) / 2), some u))) (pD p :: (rest ++ [D.lst (acc.map sD)])) := by
            unfold mTup
            rw [ev_cons (ev_addI (i := v) (b := pD p :: (rest ++ [D.lst (acc.map sD)])) rfl (ev_divW (i := u - v) (j := 2) (b := pD p :: (rest ++ [D.lst (acc.map sD)])) rfl rfl (by decide) (by decide))) (ev_cons (r := .val (.int u)) (b := pD p :: (rest ++ [D.lst (acc.map sD)])) rfl ev_nil)]
            rfl
          exact ev_cons e3 ev_nil
        · rw [List.mem_singleton.mp hs]
          exact ⟨fun a b ha hb => by cases ha; cases hb; omega, fun e he => he.elim (fun z => by cases z; omega) fun z => by cases z; omega⟩
  · rw [show (pick == 3) = false from beq_eq_false_iff_ne.mpr q] at t
    exact ⟨[], by rw [ev_no (ev_andF t), List.append_nil], by simp, by simp, fun _ => rfl⟩
theorem nb_ok (hd : Drw rd) (hp : PO p k) (hk : k < 999800) (hg : good (l, h)) (hl : acc.length < 1000000) {o5 : Option D} : ∃ (add : List Stretch) (p' : Pn) (pick : Int), m_nb rd [some (.box 0), some y, some (.box (rest.length + 1)), some (oD l), some (oD h), o5] (pD p :: (rest ++ [D.lst (acc.map sD)])) = .nx (N6 y (rest.length + 1) l h pick) (pD p' :: (rest ++ [D.lst ((acc ++ add).map sD)])) ∧ (∀ s ∈ add, good s) ∧ add.length ≤ 1 ∧ PO p' (k + 5) := by
  obtain ⟨pick, p1, e1, b1, b2, h1⟩ := ev_draw hd (ρ := [some (.box 0), some y, some (.box (rest.length + 1)), some (oD l), some (oD h), o5]) (rest := rest ++ [D.lst (acc.map sD)]) (m := mC (.int 6)) rfl rfl hp (by omega) (by decide) (by decide)
  have s1 : mAsg (mF rd (aCons (mVar 0) (aCons (mC (.int 6)) aNil))) (gN 5) [some (.box 0), some y, some (.box (rest.length + 1)), some (oD l), some (oD h), o5] (pD p :: (rest ++ [D.lst (acc.map sD)])) = .nx (N6 y (rest.length + 1) l h pick) (pD p1 :: (rest ++ [D.lst (acc.map sD)])) := ev_asg (i := 5) e1
  obtain ⟨a0, f0, g0, l0, z0⟩ := n0_ok (p := p1) (rest := rest) (y := y) (pick := pick) hg (acc := acc) (by unfold sizeLine; omega)
  obtain ⟨a1, p2, f1, g1, l1, z1, h2⟩ := n1_ok (rest := rest) (y := y) (pick := pick) hd h1 (by omega) hg (acc := acc ++ a0) (by rw [List.length_append]; unfold sizeLine; omega)
  obtain ⟨a2, p3, f2, g2, l2, z2, h3⟩ := n2_ok (rest := rest) (y := y) (pick := pick) hd h2 (by omega) hg (acc := acc ++ a0 ++ a1) (by rw [List.length_append, List.length_append]; unfold sizeLine; omega)
  obtain ⟨a3, f3, g3, l3, z3⟩ := n3_ok (p := p3) (rest := rest) (y := y) (pick := pick) hg (acc := acc ++ a0 ++ a1 ++ a2) (by rw [List.length_append, List.length_append, List.length_append]; unfold sizeLine; omega)
  refine ⟨a0 ++ a1 ++ a2 ++ a3, p3, pick, ?_, fun s hs => ?_, ?_, h3.mono (by omega)⟩
  · unfold m_nb
    rw [ev_seq s1, ev_seq f0, ev_seq f1, ev_seq f2, f3]
    simp only [List.append_assoc]
  · simp only [List.mem_append] at hs
    rcases hs with ((hs | hs) | hs) | hs
    · exact g0 s hs
    · exact g1 s hs
    · exact g2 s hs
    · exact g3 s hs
  · simp only [List.length_append]
    by_cases q0 : pick = 0
    · rw [z1 (by omega), z2 (by omega), z3 (by omega)]; simp; omega
    · rw [z0 q0]
      by_cases q1 : pick = 1
      · rw [z2 (by omega), z3 (by omega)]; simp; omega
      · rw [z1 q1]
        by_cases q2 : pick = 2
        · rw [z3 (by omega)]; simp; omega
        · rw [z2 q2]; simp; omega
theorem nb_loop (hd : Drw rd) : ∀ (ss acc : List Stretch) (p : Pn) (k : Int) (o3 o4 o5 : Option D), PO p k → k + 5 * ss.length < 999800 → (∀ s ∈ acc, good s) → (∀ s ∈ ss, good s) → acc.length + ss.length ≤ 1000000 →
    ∃ (st : List Stretch) (p' : Pn) (q3 q4 q5 : Option D), loop (gTup [(gN 3), (gN 4)]) (m_nb rd) (ss.map sD) [some (.box 0), some y, some (.box (rest.length + 1)), o3, o4, o5] (pD p :: (rest ++ [D.lst (acc.map sD)])) = .nx [some (.box 0), some y, some (.box (rest.length + 1)), q3, q4, q5] (pD p' :: (rest ++ [D.lst (st.map sD)])) ∧ (∀ s ∈ st, good s) ∧ st.length ≤ acc.length + ss.length ∧ PO p' (k + 5 * ss.length)
  | [], acc, p, k, o3, o4, o5, hp, _, ha, _, _ => ⟨acc, p, o3, o4, o5, rfl, ha, Nat.le_refl _, by simpa using hp⟩
  | s :: ss, acc, p, k, o3, o4, o5, hp, hk, ha, hs, hl => by
    rw [List.length_cons] at hk hl
    obtain ⟨add, p1, pick, e1, g1, l1, h1⟩ := nb_ok (rest := rest) (y := y) (l := s.1) (h := s.2) (acc := acc) (o5 := o5) hd hp (by omega) (hs s (List.mem_cons_self ..)) (by omega)
    obtain ⟨st, p2, z3, z4, z5, e2, g2, l2, h2⟩ := nb_loop hd ss (acc ++ add) p1 (k + 5) (some (oD s.1)) (some (oD s.2)) (some (.int pick)) h1 (by omega) (fun x hx => (List.mem_append.mp hx).elim (ha x) (g1 x)) (fun x hx => hs x (List.mem_cons_of_mem _ hx)) (by rw [List.length_append]; omega)
    refine ⟨st, p2, z3, z4, z5, ?_, g2, by rw [List.length_append] at l2; rw [List.length_cons]; omega, h2.mono (by rw [List.length_cons]; omega)⟩
    rw [List.map_cons, loop_nx (ρ1 := [some (.box 0), some y, some (.box (rest.length + 1)), some (oD s.1), some (oD s.2), o5]) rfl e1]
    exact e2
theorem near_ok (hd : Drw rd) (hs : Stw rs) (hp : PO p k) (hk : k < 990000) (hr : Cr rest) {ss : List Stretch} (hg : ∀ s ∈ ss, good s) (hl : ss.length ≤ 100) :
    ∃ (st : List Stretch) (p' : Pn), ar 2 (body 6 (m_nr rd rs)) [.box 0, .lst (ss.map sD)] (pD p :: rest) = .ok (.new (.lst (st.map sD))) (pD p' :: rest) ∧ (∀ s ∈ st, good s) ∧ st.length ≤ 4 + ss.length ∧ PO p' (k + 600) := by
  obtain ⟨s0, p1, e1, g1, l1, h1⟩ := hs p k 4 rest hp (by omega) (by omega) hr
  have a1 : mBox (mF rs (aCons (mVar 0) (aCons (mC (.int 4)) aNil))) 2 [some (.box 0), some (.lst (ss.map sD)), none, none, none, none] (pD p :: rest) = .nx [some (.box 0), some (.lst (ss.map sD)), some (.box (rest.length + 1)), none, none, none] (pD p1 :: (rest ++ [D.lst (s0.map sD)])) :=
    ev_box (i := 2) (d := .lst (s0.map sD)) (b := pD p1 :: rest) ((ev_F (ev_cons (r := .val (.box 0)) (b := pD p :: rest) rfl (ev_cons (r := .val (.int 4)) (b := pD p :: rest) rfl ev_nil))).trans e1)
  obtain ⟨st, p2, q3, q4, q5, e2, g2, l2, h2⟩ := nb_loop (rest := rest) (y := .lst (ss.map sD)) hd ss s0 p1 (k + 50) none none none h1 (by omega) g1 hg (by omega)
  refine ⟨st, p2, leave_new ?_ hr (cls_s _ _), g2, by omega, h2.mono (by omega)⟩
  show m_nr rd rs [some (.box 0), some (.lst (ss.map sD)), none, none, none, none] (pD p :: rest) = _
  unfold m_nr
  have ei : iSeq (mVar 1) [some (.box 0), some (.lst (ss.map sD)), some (.box (rest.length + 1)), none, none, none] (pD p1 :: (rest ++ [D.lst (s0.map sD)])) = .ok (ss.map sD) (pD p1 :: (rest ++ [D.lst (s0.map sD)])) := ev_iseq (r := .val (.lst (ss.map sD))) rfl rfl
  rw [ev_seq a1, ev_seq ((ev_for ei).trans e2)]
  rfl
end
/-! ### sets made in a drawn order -/
abbrev mRaw (CA : Ly) (i j : Nat) : ME := mBin (fun x y bx => noX (binC 0 (r_Ranges___or__ CA) x y bx)) (mVar i) (mVar j)
def m_mb (CA : Ly) (rd : MF) : MS := (mSeq (mAsg (mBm popD (mVar 2) (aCons (mF rd (aCons (mVar 0) (aCons (mCB (un1 lenD) (aCons (mVar 2) aNil)) aNil))) aNil)) (gTup [(gN 4), (gN 5)]))
   (mSeq (mAsg (mCM (CA 0) (r_Ranges_between CA) (mC (.adr (CA 0))) (aCons (mVar 4) (aCons (mVar 5) aNil))) (gN 6))
   (mSeq (mIfS (mAnd (mTest (mUn notN (mVar 4))) (mAnd (mTest (mBin eqD (mVar 4) (mVar 5))) (mTest (mBin eqD (mF rd (aCons (mVar 0) (aCons (mC (.int 2)) aNil))) (mC (.int 0)))))) (mAsg (mCM (CA 0) (r_Ranges_of CA) (mC (.adr (CA 0))) (aCons (mVar 4) (aCons (mVar 4) aNil))) (gN 6)) mSkip)
   (mAsg (mBin ixD (mLst (aCons (mRaw CA 3 6) (aCons (mRaw CA 6 3) aNil))) (mF rd (aCons (mVar 0) (aCons (mC (.int 2)) aNil)))) (gN 3)))))
def m_md (CA : Ly) (rd : MF) : MS := (mSeq (mBox (mCB (un1 listD) (aCons (mVar 1) aNil)) 2)
  (mSeq (mAsg (mCM (CA 0) (r_Ranges_empty CA) (mC (.adr (CA 0))) aNil) (gN 3))
  (mSeq (mWhile (mTest (mBin neD (mVar 2) (mLst aNil))) (m_mb CA rd) 99)
  (mRet (mVar 3)))))
theorem md_a (CA : Ly) : r__law_made CA = ar 2 (body 7 (m_md CA (r__law_draw CA))) := rfl
theorem md_b (CA : Ly) : r__law_made_b CA = ar 2 (body 7 (m_md CA (r__law_draw_b CA))) := rfl
abbrev S7 (y : D) (n : Nat) (f : D) (o4 o5 o6 : Option D) : Sl := [some (.box 0), some y, some (.box n), some f, o4, o5, o6]
section
variable {CA : Ly} {rd : MF} {p : Pn} {k : Int} {rest : List D} {left F : List Stretch} {y : D} {o4 o5 o6 : Option D} {n : Nat}
theorem Cr.box (hr : Cr rest) (p : Pn) (st : List Stretch) : Cb (pD p :: (rest ++ [D.lst (st.map sD)])) := Cb.snoc (bx := pD p :: rest) (hr p) (cls_s _ _)
theorem mb_ok (CA : Ly) (hd : Drw rd) (hp : PO p k) (hk : k < 999900) (hr : Cr rest) (hne : left ≠ []) (hl : left.length ≤ 1000) (hF : St n F) (hn : n ≤ 1000) (hg : ∀ s ∈ left, okS s) :
    ∃ (left' F' : List Stretch) (p' : Pn) (q4 q5 q6 : Option D), m_mb CA rd (S7 y (rest.length + 1) (rD F) o4 o5 o6) (pD p :: (rest ++ [D.lst (left.map sD)])) = .nx (S7 y (rest.length + 1) (rD F') q4 q5 q6) (pD p' :: (rest ++ [D.lst (left'.map sD)])) ∧
      left'.length + 1 = left.length ∧ St (n + 2) F' ∧ (∀ i, mem F' i ∨ mem left' i ↔ mem F i ∨ mem left i) ∧ (∀ s ∈ left', okS s) ∧ PO p' (k + 3) := by
  have hpos : 0 < left.length := List.length_pos_iff.mpr hne
  have elen : mCB (un1 lenD) (aCons (mVar 2) aNil) (S7 y (rest.length + 1) (rD F) o4 o5 o6) (pD p :: (rest ++ [D.lst (left.map sD)])) = .ok (.val (.int left.length)) (pD p :: (rest ++ [D.lst (left.map sD)])) := by
    rw [ev_CB (ev_cons (r := .val (.box (rest.length + 1))) (b := pD p :: (rest ++ [D.lst (left.map sD)])) rfl ev_nil)]
    show (match (match (match (pD p :: (rest ++ [D.lst (left.map sD)]))[rest.length + 1]? with | some (.lst ds) => some ds | _ => none) with | some ds => some ds | none => none) with | some ds => OK (.int (ds.length : Nat)) (pD p :: (rest ++ [D.lst (left.map sD)])) | none => .stk) = _
    rw [get_p]
    simp only [List.length_map]
  obtain ⟨i, p1, e1, b1, b2, h1⟩ := ev_draw hd (ρ := S7 y (rest.length + 1) (rD F) o4 o5 o6) (rest := rest ++ [D.lst (left.map sD)]) rfl elen hp (by omega) (by omega) (by omega)
  have hi : i.toNat < left.length := by omega
  obtain ⟨s, hs⟩ : ∃ s, s = left[i.toNat] := ⟨_, rfl⟩
  obtain ⟨left', hleft⟩ : ∃ l', l' = left.eraseIdx i.toNat := ⟨_, rfl⟩
  have hm : ∀ x, x ∈ left ↔ x = s ∨ x ∈ left' := fun x => by rw [hs, hleft]; exact er_mem left i.toNat hi x
  have hlen : left'.length + 1 = left.length := by rw [hleft, List.length_eraseIdx_of_lt hi]; omega
  have e2 : mBm popD (mVar 2) (aCons (mF rd (aCons (mVar 0) (aCons (mCB (un1 lenD) (aCons (mVar 2) aNil)) aNil))) aNil) (S7 y (rest.length + 1) (rD F) o4 o5 o6) (pD p :: (rest ++ [D.lst (left.map sD)])) = .ok (.val (sD s)) (pD p1 :: (rest ++ [D.lst (left'.map sD)])) := by
    show (match (match (pD p :: (rest ++ [D.lst (left.map sD)]))[rest.length + 1]? with | some (.lst ds) => some ds | _ => none) with | some _ => ((aCons (mF rd (aCons (mVar 0) (aCons (mCB (un1 lenD) (aCons (mVar 2) aNil)) aNil))) aNil) (S7 y (rest.length + 1) (rD F) o4 o5 o6) (pD p :: (rest ++ [D.lst (left.map sD)]))).bind fun ds b1 => popD (.box (rest.length + 1)) ds b1 | none => .stk) = _
    rw [get_p]
    simp only
    rw [ev_cons e1 ev_nil]
    show (match (pD p1 :: (rest ++ [D.lst (left.map sD)]))[rest.length + 1]? with
      | some (.lst xs) => if -(2 ^ 63) ≤ i ∧ i < 2 ^ 63 then (match seqIndex? i xs.length with
        | some k => (match xs[k]? with
          | some y => OK y ((pD p1 :: (rest ++ [D.lst (left.map sD)])).set (rest.length + 1) (.lst (xs.eraseIdx k)))
          | none => .stk)
        | none => .stk) else .stk
      | _ => .stk) = _
    rw [get_p]
    simp only
    rw [if_pos ⟨by omega, by omega⟩, List.length_map, seqIndex_of b1 b2]
    simp only [List.getElem?_map, List.getElem?_eq_getElem hi, Option.map_some]
    rw [er_map, set_p, ← hleft, ← hs]
  have s2 : mAsg (mBm popD (mVar 2) (aCons (mF rd (aCons (mVar 0) (aCons (mCB (un1 lenD) (aCons (mVar 2) aNil)) aNil))) aNil)) (gTup [(gN 4), (gN 5)]) (S7 y (rest.length + 1) (rD F) o4 o5 o6) (pD p :: (rest ++ [D.lst (left.map sD)])) = .nx (S7 y (rest.length + 1) (rD F) (some (oD s.1)) (some (oD s.2)) o6) (pD p1 :: (rest ++ [D.lst (left'.map sD)])) := by
    unfold mAsg
    rw [e2]
    rfl
  have hb1 := fun p => hr.box p left'
  obtain ⟨c, e3, c1, c2⟩ := o_between CA s.1 s.2 (hb1 p1)
  have s3 : mAsg (mCM (CA 0) (r_Ranges_between CA) (mC (.adr (CA 0))) (aCons (mVar 4) (aCons (mVar 5) aNil))) (gN 6) (S7 y (rest.length + 1) (rD F) (some (oD s.1)) (some (oD s.2)) o6) (pD p1 :: (rest ++ [D.lst (left'.map sD)])) = .nx (S7 y (rest.length + 1) (rD F) (some (oD s.1)) (some (oD s.2)) (some (rD c))) (pD p1 :: (rest ++ [D.lst (left'.map sD)])) :=
    ev_asg (i := 6) ((ev_CM (ev_cons (r := .val (oD s.1)) (b := pD p1 :: (rest ++ [D.lst (left'.map sD)])) rfl (ev_cons (r := .val (oD s.2)) (b := pD p1 :: (rest ++ [D.lst (left'.map sD)])) rfl ev_nil))).trans e3)
  have s4 : ∃ (c' : List Stretch) (p2 : Pn), mIfS (mAnd (mTest (mUn notN (mVar 4))) (mAnd (mTest (mBin eqD (mVar 4) (mVar 5))) (mTest (mBin eqD (mF rd (aCons (mVar 0) (aCons (mC (.int 2)) aNil))) (mC (.int 0)))))) (mAsg (mCM (CA 0) (r_Ranges_of CA) (mC (.adr (CA 0))) (aCons (mVar 4) (aCons (mVar 4) aNil))) (gN 6)) mSkip (S7 y (rest.length + 1) (rD F) (some (oD s.1)) (some (oD s.2)) (some (rD c))) (pD p1 :: (rest ++ [D.lst (left'.map sD)])) = .nx (S7 y (rest.length + 1) (rD F) (some (oD s.1)) (some (oD s.2)) (some (rD c'))) (pD p2 :: (rest ++ [D.lst (left'.map sD)])) ∧ St 2 c' ∧ (∀ i, mem c' i ↔ inS s i) ∧ PO p2 (k + 2) := by
    obtain ⟨l, h⟩ := s
    cases l with
    | none => exact ⟨c, p1, ev_no (ev_andF rfl), c1.mono (by omega), c2, h1.mono (by omega)⟩
    | some v => cases h with
      | none => exact ⟨c, p1, ev_no ((ev_andT rfl).trans (ev_andF rfl)), c1.mono (by omega), c2, h1.mono (by omega)⟩
      | some u =>
        have t1 : mTest (mBin eqD (mVar 4) (mVar 5)) (S7 y (rest.length + 1) (rD F) (some (.int v)) (some (.int u)) (some (rD c))) (pD p1 :: (rest ++ [D.lst (left'.map sD)])) = .ok (v == u) (pD p1 :: (rest ++ [D.lst (left'.map sD)])) := rfl
        by_cases q : v = u
        · subst q
          rw [show (v == v) = true from beq_self_eq_true v] at t1
          obtain ⟨r, p2, e4, _, _, h2⟩ := ev_draw hd (ρ := S7 y (rest.length + 1) (rD F) (some (.int v)) (some (.int v)) (some (rD c))) (rest := rest ++ [D.lst (left'.map sD)]) (m := mC (.int 2)) rfl rfl h1 (by omega) (by decide) (by decide)
          have t2 := ev_eqI (m' := mC (.int 0)) (j := 0) e4 rfl
          have t3 := (ev_andT (b := pD p1 :: (rest ++ [D.lst (left'.map sD)])) (m := mTest (mUn notN (mVar 4))) rfl).trans ((ev_andT t1).trans t2)
          cases z : (r == 0) with
          | false =>
            rw [z] at t3
            exact ⟨c, p2, ev_no t3, c1.mono (by omega), c2, h2.mono (by omega)⟩
          | true =>
            rw [z] at t3
            obtain ⟨c', e5, c3, c4⟩ := o_of CA [v, v] (n := 2) (by simp) (by omega) (hb1 p2)
            refine ⟨c', p2, ?_, c3, fun i => (c4 i).trans ?_, h2.mono (by omega)⟩
            · rw [ev_ifT t3]
              exact ev_asg (i := 6) ((ev_CM (ev_cons (r := .val (.int v)) (b := pD p2 :: (rest ++ [D.lst (left'.map sD)])) rfl (ev_cons (r := .val (.int v)) (b := pD p2 :: (rest ++ [D.lst (left'.map sD)])) rfl ev_nil))).trans e5)
            · simp [inS]
              omega
        · rw [show (v == u) = false from beq_eq_false_iff_ne.mpr q] at t1
          exact ⟨c, p1, ev_no ((ev_andT rfl).trans (ev_andF t1)), c1.mono (by omega), c2, h1.mono (by omega)⟩
  obtain ⟨c', p2, s4, c3, c4, h2⟩ := s4
  obtain ⟨f1, e5, x1, x2⟩ := o_or CA (hb1 p2) hF c3 (by omega)
  obtain ⟨f2, e6, x3, x4⟩ := o_or CA (hb1 p2) c3 hF (by omega)
  obtain ⟨r, p3, e7, b3, b4, h3⟩ := ev_draw hd (ρ := S7 y (rest.length + 1) (rD F) (some (oD s.1)) (some (oD s.2)) (some (rD c'))) (rest := rest ++ [D.lst (left'.map sD)]) (m := mC (.int 2)) rfl rfl h2 (by omega) (by decide) (by decide)
  have e8 : mLst (aCons (mRaw CA 3 6) (aCons (mRaw CA 6 3) aNil)) (S7 y (rest.length + 1) (rD F) (some (oD s.1)) (some (oD s.2)) (some (rD c'))) (pD p2 :: (rest ++ [D.lst (left'.map sD)])) = .ok (.new (.lst [rD f1, rD f2])) (pD p2 :: (rest ++ [D.lst (left'.map sD)])) := by
    unfold mLst
    rw [ev_cons ((ev_bin (r := .val (rD F)) (r' := .val (rD c')) (b := pD p2 :: (rest ++ [D.lst (left'.map sD)])) (b' := pD p2 :: (rest ++ [D.lst (left'.map sD)])) rfl rfl).trans e5) (ev_cons ((ev_bin (r := .val (rD c')) (r' := .val (rD F)) (b := pD p2 :: (rest ++ [D.lst (left'.map sD)])) (b' := pD p2 :: (rest ++ [D.lst (left'.map sD)])) rfl rfl).trans e6) ev_nil)]
    rfl
  have e9 : ∃ F', mAsg (mBin ixD (mLst (aCons (mRaw CA 3 6) (aCons (mRaw CA 6 3) aNil))) (mF rd (aCons (mVar 0) (aCons (mC (.int 2)) aNil)))) (gN 3) (S7 y (rest.length + 1) (rD F) (some (oD s.1)) (some (oD s.2)) (some (rD c'))) (pD p2 :: (rest ++ [D.lst (left'.map sD)])) = .nx (S7 y (rest.length + 1) (rD F') (some (oD s.1)) (some (oD s.2)) (some (rD c'))) (pD p3 :: (rest ++ [D.lst (left'.map sD)])) ∧ St (n + 2) F' ∧ ∀ i, mem F' i ↔ mem F i ∨ inS s i := by
    rcases (show r = 0 ∨ r = 1 by omega) with rfl | rfl
    · exact ⟨f1, ev_asg (i := 3) (r := .val (rD f1)) (b := pD p3 :: (rest ++ [D.lst (left'.map sD)])) ((ev_bin e8 e7).trans rfl), x1, fun i => by rw [x2, c4]⟩
    · exact ⟨f2, ev_asg (i := 3) (r := .val (rD f2)) (b := pD p3 :: (rest ++ [D.lst (left'.map sD)])) ((ev_bin e8 e7).trans rfl), x3.mono (by omega), fun i => by rw [x4, c4]; exact or_comm⟩
  obtain ⟨F', s5, y1, y2⟩ := e9
  refine ⟨left', F', p3, some (oD s.1), some (oD s.2), some (rD c'), ?_, hlen, y1, fun i => ?_, fun x hx => hg x ((hm x).mpr (.inr hx)), h3.mono (by omega)⟩
  · unfold m_mb
    rw [ev_seq s2, ev_seq s3, ev_seq s4, s5]
  · rw [y2]
    have : mem left i ↔ inS s i ∨ mem left' i := by
      constructor
      · rintro ⟨x, hx, hi⟩
        rcases (hm x).mp hx with rfl | hx
        · exact .inl hi
        · exact .inr ⟨x, hx, hi⟩
      · rintro (hi | ⟨x, hx, hi⟩)
        · exact ⟨s, (hm s).mpr (.inl rfl), hi⟩
        · exact ⟨x, (hm x).mpr (.inr hx), hi⟩
    rw [this]
    exact or_assoc
theorem mb_while (CA : Ly) (hd : Drw rd) (hr : Cr rest) : ∀ (fuel : Nat) (left F : List Stretch) (p : Pn) (k : Int) (n : Nat) (o4 o5 o6 : Option D), left.length < fuel → PO p k → k + 3 * left.length < 999900 → n + 2 * left.length ≤ 1000 → St n F → (∀ s ∈ left, okS s) →
    ∃ (F' : List Stretch) (p' : Pn) (q4 q5 q6 : Option D), mWhile (mTest (mBin neD (mVar 2) (mLst aNil))) (m_mb CA rd) fuel (S7 y (rest.length + 1) (rD F) o4 o5 o6) (pD p :: (rest ++ [D.lst (left.map sD)])) = .nx (S7 y (rest.length + 1) (rD F') q4 q5 q6) (pD p' :: (rest ++ [D.lst []])) ∧ St (n + 2 * left.length) F' ∧ (∀ i, mem F' i ↔ mem F i ∨ mem left i) ∧ PO p' (k + 3 * left.length)
  | 0, left, F, p, k, n, o4, o5, o6, h, _, _, _, _, _ => by omega
  | fuel + 1, left, F, p, k, n, o4, o5, o6, hl, hp, hk, hn, hF, hg => by
    have t : mTest (mBin neD (mVar 2) (mLst aNil)) (S7 y (rest.length + 1) (rD F) o4 o5 o6) (pD p :: (rest ++ [D.lst (left.map sD)])) = .ok (!left.isEmpty) (pD p :: (rest ++ [D.lst (left.map sD)])) :=
      ev_test ((ev_bin (r := .val (.box (rest.length + 1))) (r' := .new (.lst [])) (b := pD p :: (rest ++ [D.lst (left.map sD)])) (b' := pD p :: (rest ++ [D.lst (left.map sD)])) rfl rfl).trans (ne_box (st := left) (get_p (p := p) (rest := rest) (x := D.lst (left.map sD)))))
    by_cases q : left = []
    · subst q
      exact ⟨F, p, o4, o5, o6, while_F t, hF.mono (by omega), fun i => ⟨.inl, fun h => h.elim id fun z => (mem_nil i z).elim⟩, hp.mono (by omega)⟩
    · have z : (!left.isEmpty) = true := by cases left with
        | nil => exact absurd rfl q
        | cons _ _ => rfl
      rw [z] at t
      have hpos : 0 < left.length := List.length_pos_iff.mpr q
      obtain ⟨left', F', p1, q4, q5, q6, e1, l1, f1, m1, g1, h1⟩ := mb_ok (y := y) (o4 := o4) (o5 := o5) (o6 := o6) CA hd hp (by omega) hr q (by omega) hF (by omega) hg
      obtain ⟨F2, p2, z4, z5, z6, e2, f2, m2, h2⟩ := mb_while CA hd hr fuel left' F' p1 (k + 3) (n + 2) q4 q5 q6 (by omega) h1 (by omega) (by omega) f1 g1
      exact ⟨F2, p2, z4, z5, z6, (while_T t e1).trans e2, f2.mono (by omega), fun i => (m2 i).trans (m1 i), h2.mono (by omega)⟩
theorem made_ok (CA : Ly) (hd : Drw rd) (hp : PO p k) (hk : k < 999000) (hr : Cr rest) {st : List Stretch} (hl : st.length ≤ 40) (hg : ∀ s ∈ st, okS s) :
    ∃ (F : List Stretch) (p' : Pn), ar 2 (body 7 (m_md CA rd)) [.box 0, .lst (st.map sD)] (pD p :: rest) = .ok (.val (rD F)) (pD p' :: rest) ∧ St (2 * st.length) F ∧ (∀ i, mem F i ↔ mem st i) ∧ PO p' (k + 120) := by
  have a1 : mBox (mCB (un1 listD) (aCons (mVar 1) aNil)) 2 [some (.box 0), some (.lst (st.map sD)), none, none, none, none, none] (pD p :: rest) = .nx [some (.box 0), some (.lst (st.map sD)), some (.box (rest.length + 1)), none, none, none, none] (pD p :: (rest ++ [D.lst (st.map sD)])) :=
    ev_box (i := 2) (d := .lst (st.map sD)) (b := pD p :: rest) rfl
  have a2 : mAsg (mCM (CA 0) (r_Ranges_empty CA) (mC (.adr (CA 0))) aNil) (gN 3) [some (.box 0), some (.lst (st.map sD)), some (.box (rest.length + 1)), none, none, none, none] (pD p :: (rest ++ [D.lst (st.map sD)])) = .nx (S7 (.lst (st.map sD)) (rest.length + 1) (rD []) none none none) (pD p :: (rest ++ [D.lst (st.map sD)])) :=
    ev_asg (i := 3) ((ev_CM ev_nil).trans (o_empty CA (hr.box p st)))
  have s0 : St 0 [] := ⟨⟨fun s h => by simp at h, List.Pairwise.nil⟩, by simp⟩
  obtain ⟨F, p1, q4, q5, q6, e1, f1, m1, h1⟩ := mb_while (y := .lst (st.map sD)) CA hd hr 99 st [] p k 0 none none none (by omega) hp (by omega) (by omega) s0 hg
  refine ⟨F, p1, ?_, by simpa using f1, fun i => (m1 i).trans ⟨fun h => h.elim (fun z => (mem_nil i z).elim) id, .inr⟩, h1.mono (by omega)⟩
  have e : m_md CA rd [some (.box 0), some (.lst (st.map sD)), none, none, none, none, none] (pD p :: rest) = .rt (.val (rD F)) (pD p1 :: (rest ++ [D.lst []])) := by
    unfold m_md
    rw [ev_seq a1, ev_seq a2, ev_seq e1]
    rfl
  have t : (pD p1 :: (rest ++ [D.lst []])).take (pD p :: rest).length = pD p1 :: rest := by simp
  have := run_rtX (n := 7) (k := 2) (m := m_md CA rd) (ds := [.box 0, .lst (st.map sD)]) e (by simp) (by rw [t]; exact hr p1) (cl_r _ _) (fun j z => by cases z)
  rw [t] at this
  exact this
end
end K0

set_option Elab.async false
set_option linter.all false
set_option maxRecDepth 100000
set_option maxHeartbeats 4000000
/-! K15: the law's questions. -/
namespace DL
open PySem
theorem atI_at {α : Type} {xs : List α} {j : Int} {x : α} (h0 : 0 ≤ j) (h : xs[j.toNat]? = some x) : L2.atI xs j = some x := by
  have hl : j.toNat < xs.length := (List.getElem?_eq_some_iff.mp h).1
  unfold L2.atI L2.ixN
  rw [if_pos h0, if_pos (show j < (xs.length : Int) by omega)]
  exact h
end DL
namespace K0
open PySem DL
section
variable {CA : Ly} {bx : List D} {n m : Nat} {a b c st : List Stretch} {x y : D}
/-! ### is_joined -/
def m_ij (CA : Ly) : MS := (mSeq (mIfS (mOr (mNot (mTest (mCB (un2 (isiD CA [0] tabI)) (aCons (mVar 2) (aCons (mC (.ty "tuple")) aNil))))) (mTest (mBin neD (mCB (un1 lenD) (aCons (mVar 2) aNil)) (mC (.int 2))))) (mRet (mC (.bl false))) mSkip)
   (mSeq (mFor (iSeq (mVar 2)) (gN 3) (mIfS (mAnd (mTest (mUn notN (mVar 3))) (mOr (mNot (mTest (mCB (un2 (isiD CA [0] tabI)) (aCons (mVar 3) (aCons (mC (.ty "int")) aNil))))) (mTest (mCB (un2 (isiD CA [0] tabI)) (aCons (mVar 3) (aCons (mC (.ty "bool")) aNil)))))) (mRet (mC (.bl false))) mSkip))
   (mSeq (mAsg (mVar 2) (gTup [(gN 4), (gN 5)]))
   (mSeq (mIfS (mOr (mAnd (mTest (mUn isN (mVar 4))) (mTest (mBin gtI (mVar 1) (mC (.int 0))))) (mAnd (mTest (mUn isN (mVar 5))) (mTest (mBin ltI (mBin addI (mVar 1) (mC (.int 1))) (mCB (un1 lenD) (aCons (mVar 0) aNil)))))) (mRet (mC (.bl false))) mSkip)
   (mSeq (mIfS (mAnd (mTest (mUn notN (mVar 4))) (mAnd (mTest (mUn notN (mVar 5))) (mTest (mBin gtI (mVar 4) (mVar 5))))) (mRet (mC (.bl false))) mSkip)
   (mIfS (mAnd (mTest (mBin gtI (mVar 1) (mC (.int 0)))) (mTest (mBin geI (mBin addI (mBin ixD (mBin ixD (mVar 0) (mBin subI (mVar 1) (mC (.int 1)))) (mC (.int 1))) (mC (.int 1))) (mVar 4)))) (mRet (mC (.bl false))) mSkip))))))
theorem m_ij_eq (CA : Ly) : m__law_is_joined CA = (mSeq (mIfS (mNot (mTest (mCB (un2 (isiD CA [0] tabI)) (aCons (mVar 0) (aCons (mC (.ty "tuple")) aNil))))) (mRet (mC (.bl false))) mSkip)
  (mSeq (mFor (iEnM (mVar 0)) (gTup [(gN 1), (gN 2)]) (m_ij CA)) (mRet (mC (.bl true))))) := rfl
theorem isi_ev {i t u : Nat} {ρ : Sl} {z : String} (hρ : ρ[i]? = some (some y)) (hy : y.tc bx = some t) (hz : tyN z = some u) (ht : t ∈ codes [0]) : mTest (mCB (un2 (isiD CA [0] tabI)) (aCons (mVar i) (aCons (mC (.ty z)) aNil))) ρ bx = .ok (tabI t u) bx := by
  have e : mVar i ρ bx = .ok (.val y) bx := by unfold mVar; rw [hρ]
  exact ev_test ((ev_CB (ev_cons e (ev_cons (r := .val (.ty z)) (b := bx) rfl ev_nil))).trans (isi_ty hy hz ht))
theorem ty_int : tyN "int" = some 2 := by simp [tyN]
theorem ty_bool : tyN "bool" = some 1 := by simp [tyN]
theorem ty_tup : tyN "tuple" = some 4 := by simp [tyN]
theorem ij_end (e : Option Int) {o0 o1 o2 o4 o5 : Option D} : mIfS (mAnd (mTest (mUn notN (mVar 3))) (mOr (mNot (mTest (mCB (un2 (isiD CA [0] tabI)) (aCons (mVar 3) (aCons (mC (.ty "int")) aNil))))) (mTest (mCB (un2 (isiD CA [0] tabI)) (aCons (mVar 3) (aCons (mC (.ty "bool")) aNil)))))) (mRet (mC (.bl false))) mSkip [o0, o1, o2, some (oD e), o4, o5] bx = .nx [o0, o1, o2, some (oD e), o4, o5] bx := by
  cases e with
  | none => exact ev_no (ev_andF rfl)
  | some v =>
    have e1 := isi_ev (CA := CA) (bx := bx) (i := 3) (ρ := [o0, o1, o2, some (.int v), o4, o5]) (y := .int v) (t := 2) rfl rfl ty_int (by decide)
    have e2 := isi_ev (CA := CA) (bx := bx) (i := 3) (ρ := [o0, o1, o2, some (.int v), o4, o5]) (y := .int v) (t := 2) rfl rfl ty_bool (by decide)
    exact ev_no ((ev_andT rfl).trans ((ev_orF (ev_not e1)).trans e2))
theorem ij_body {all pre post : List Stretch} {s : Stretch} (hc : Canon all) (ha : all = pre ++ s :: post) {o3 o4 o5 : Option D} :
    m_ij CA [some (.tup (all.map sD)), some (.int pre.length), some (sD s), o3, o4, o5] bx = .nx [some (.tup (all.map sD)), some (.int pre.length), some (sD s), some (oD s.2), some (oD s.1), some (oD s.2)] bx := by
  have hok : okS s := hc.ok s (by rw [ha]; simp)
  have hg := hc.gaps
  rw [ha, List.pairwise_append, List.pairwise_cons] at hg
  obtain ⟨_, ⟨hpost, _⟩, hpre⟩ := hg
  have hlen : all.length = pre.length + (post.length + 1) := by rw [ha]; simp
  have e1 : mOr (mNot (mTest (mCB (un2 (isiD CA [0] tabI)) (aCons (mVar 2) (aCons (mC (.ty "tuple")) aNil))))) (mTest (mBin neD (mCB (un1 lenD) (aCons (mVar 2) aNil)) (mC (.int 2)))) [some (.tup (all.map sD)), some (.int pre.length), some (sD s), o3, o4, o5] bx = .ok false bx :=
    (ev_orF (ev_not (isi_ev (y := sD s) (t := 4) rfl rfl ty_tup (by decide)))).trans rfl
  have e2 : mFor (iSeq (mVar 2)) (gN 3) (mIfS (mAnd (mTest (mUn notN (mVar 3))) (mOr (mNot (mTest (mCB (un2 (isiD CA [0] tabI)) (aCons (mVar 3) (aCons (mC (.ty "int")) aNil))))) (mTest (mCB (un2 (isiD CA [0] tabI)) (aCons (mVar 3) (aCons (mC (.ty "bool")) aNil)))))) (mRet (mC (.bl false))) mSkip) [some (.tup (all.map sD)), some (.int pre.length), some (sD s), o3, o4, o5] bx = .nx [some (.tup (all.map sD)), some (.int pre.length), some (sD s), some (oD s.2), o4, o5] bx := by
    rw [ev_for (ds := [oD s.1, oD s.2]) (b := bx) rfl, loop_nx (ρ1 := [some (.tup (all.map sD)), some (.int pre.length), some (sD s), some (oD s.1), o4, o5]) rfl (ij_end s.1), loop_nx (ρ1 := [some (.tup (all.map sD)), some (.int pre.length), some (sD s), some (oD s.2), o4, o5]) rfl (ij_end s.2)]
    rfl
  have e3 : mAsg (mVar 2) (gTup [(gN 4), (gN 5)]) [some (.tup (all.map sD)), some (.int pre.length), some (sD s), some (oD s.2), o4, o5] bx = .nx [some (.tup (all.map sD)), some (.int pre.length), some (sD s), some (oD s.2), some (oD s.1), some (oD s.2)] bx := rfl
  have e4 : mOr (mAnd (mTest (mUn isN (mVar 4))) (mTest (mBin gtI (mVar 1) (mC (.int 0))))) (mAnd (mTest (mUn isN (mVar 5))) (mTest (mBin ltI (mBin addI (mVar 1) (mC (.int 1))) (mCB (un1 lenD) (aCons (mVar 0) aNil))))) [some (.tup (all.map sD)), some (.int pre.length), some (sD s), some (oD s.2), some (oD s.1), some (oD s.2)] bx = .ok false bx := by
    have f1 : mAnd (mTest (mUn isN (mVar 4))) (mTest (mBin gtI (mVar 1) (mC (.int 0)))) [some (.tup (all.map sD)), some (.int pre.length), some (sD s), some (oD s.2), some (oD s.1), some (oD s.2)] bx = .ok false bx := by
      cases q : s.1 with
      | some v => exact ev_andF rfl
      | none =>
        have hp : pre = [] := by
          cases pre with
          | nil => rfl
          | cons t pre =>
            obtain ⟨_, z, _, h2, _⟩ := hpre t (List.mem_cons_self ..) s (List.mem_cons_self ..)
            rw [q] at h2; cases h2
        subst hp
        exact (ev_andT (b := bx) rfl).trans rfl
    have f2 : mAnd (mTest (mUn isN (mVar 5))) (mTest (mBin ltI (mBin addI (mVar 1) (mC (.int 1))) (mCB (un1 lenD) (aCons (mVar 0) aNil)))) [some (.tup (all.map sD)), some (.int pre.length), some (sD s), some (oD s.2), some (oD s.1), some (oD s.2)] bx = .ok false bx := by
      cases q : s.2 with
      | some v => exact ev_andF rfl
      | none =>
        have hp : post = [] := by
          cases post with
          | nil => rfl
          | cons t post =>
            obtain ⟨_, z, h1, _, _⟩ := hpost t (List.mem_cons_self ..)
            rw [q] at h1; cases h1
        have tt : mTest (mBin ltI (mBin addI (mVar 1) (mC (.int 1))) (mCB (un1 lenD) (aCons (mVar 0) aNil))) [some (.tup (all.map sD)), some (.int pre.length), some (sD s), some (oD none), some (oD s.1), some (oD none)] bx = .ok (decide ((pre.length : Int) + 1 < ((all.map sD).length : Nat))) bx := rfl
        rw [decide_eq_false (by rw [List.length_map, hlen, hp]; simp)] at tt
        exact (ev_andT (b := bx) rfl).trans tt
    exact (ev_orF f1).trans f2
  have e5 : mAnd (mTest (mUn notN (mVar 4))) (mAnd (mTest (mUn notN (mVar 5))) (mTest (mBin gtI (mVar 4) (mVar 5)))) [some (.tup (all.map sD)), some (.int pre.length), some (sD s), some (oD s.2), some (oD s.1), some (oD s.2)] bx = .ok false bx := by
    cases q : s.1 with
    | none => exact ev_andF rfl
    | some v => cases q2 : s.2 with
      | none => exact (ev_andT (b := bx) rfl).trans (ev_andF rfl)
      | some u =>
        have tt : mTest (mBin gtI (mVar 4) (mVar 5)) [some (.tup (all.map sD)), some (.int pre.length), some (sD s), some (.int u), some (.int v), some (.int u)] bx = .ok (decide (u < v)) bx := rfl
        rw [decide_eq_false (by have := hok v u q q2; omega)] at tt
        exact (ev_andT (b := bx) rfl).trans ((ev_andT (b := bx) rfl).trans tt)
  have e6 : mAnd (mTest (mBin gtI (mVar 1) (mC (.int 0)))) (mTest (mBin geI (mBin addI (mBin ixD (mBin ixD (mVar 0) (mBin subI (mVar 1) (mC (.int 1)))) (mC (.int 1))) (mC (.int 1))) (mVar 4))) [some (.tup (all.map sD)), some (.int pre.length), some (sD s), some (oD s.2), some (oD s.1), some (oD s.2)] bx = .ok false bx := by
    have tt : mTest (mBin gtI (mVar 1) (mC (.int 0))) [some (.tup (all.map sD)), some (.int pre.length), some (sD s), some (oD s.2), some (oD s.1), some (oD s.2)] bx = .ok (decide ((0 : Int) < (pre.length : Int))) bx := rfl
    rcases List.eq_nil_or_concat pre with hp | ⟨init, t, hp⟩
    · rw [decide_eq_false (by rw [hp]; simp)] at tt
      exact ev_andF tt
    · rw [decide_eq_true (by rw [hp]; simp)] at tt
      obtain ⟨u, v, h1, h2, h3⟩ := hpre t (by rw [hp]; simp) s (List.mem_cons_self ..)
      have hpl : pre.length = init.length + 1 := by rw [hp]; simp
      have g1 : mBin ixD (mVar 0) (mBin subI (mVar 1) (mC (.int 1))) [some (.tup (all.map sD)), some (.int pre.length), some (sD s), some (oD s.2), some (oD s.1), some (oD s.2)] bx = .ok (.val (sD t)) bx := by
        rw [ev_bin (r := .val (.tup (all.map sD))) (b := bx) rfl (ev_subI (i := pre.length) (j := 1) (b := bx) rfl rfl)]
        show (match L2.atI (all.map sD) ((pre.length : Int) - 1) with | some d => OK d bx | none => .stk) = _
        rw [atI_at (x := sD t) (by omega) (by
          have : ((pre.length : Int) - 1).toNat = init.length := by omega
          rw [this, ha, hp]
          simp)]
      have g2 : mBin ixD (mBin ixD (mVar 0) (mBin subI (mVar 1) (mC (.int 1)))) (mC (.int 1)) [some (.tup (all.map sD)), some (.int pre.length), some (sD s), some (oD s.2), some (oD s.1), some (oD s.2)] bx = .ok (.val (.int u)) bx := by
        rw [ev_bin g1 (r' := .val (.int 1)) (b' := bx) rfl, show (D.int u) = oD t.2 by rw [h1]]
        rfl
      have g3 := ev_addI (m' := mC (.int 1)) (j := 1) g2 rfl
      have g4 : mTest (mBin geI (mBin addI (mBin ixD (mBin ixD (mVar 0) (mBin subI (mVar 1) (mC (.int 1)))) (mC (.int 1))) (mC (.int 1))) (mVar 4)) [some (.tup (all.map sD)), some (.int pre.length), some (sD s), some (oD s.2), some (oD s.1), some (oD s.2)] bx = .ok (decide (v ≤ u + 1)) bx :=
        ev_test ((ev_bin g3 (r' := .val (oD s.1)) (b' := bx) rfl).trans (by rw [h2]; rfl))
      rw [decide_eq_false (by omega)] at g4
      exact (ev_andT tt).trans g4
  unfold m_ij
  rw [ev_seq (ev_no e1), ev_seq e2, ev_seq e3, ev_seq (ev_no e4), ev_seq (ev_no e5), ev_no e6]
theorem ij_loop {all : List Stretch} (hc : Canon all) : ∀ (post pre : List Stretch) (o1 o2 o3 o4 o5 : Option D), all = pre ++ post →
    ∃ q1 q2 q3 q4 q5, loop (gTup [(gN 1), (gN 2)]) (m_ij CA) (pairsFrom pre.length (post.map sD)) [some (.tup (all.map sD)), o1, o2, o3, o4, o5] bx = .nx [some (.tup (all.map sD)), q1, q2, q3, q4, q5] bx
  | [], pre, o1, o2, o3, o4, o5, _ => ⟨o1, o2, o3, o4, o5, rfl⟩
  | s :: post, pre, o1, o2, o3, o4, o5, ha => by
    obtain ⟨q1, q2, q3, q4, q5, e⟩ := ij_loop hc post (pre ++ [s]) (some (.int pre.length)) (some (sD s)) (some (oD s.2)) (some (oD s.1)) (some (oD s.2)) (by rw [ha]; simp)
    refine ⟨q1, q2, q3, q4, q5, ?_⟩
    rw [List.length_append, List.length_singleton] at e
    show loop (gTup [(gN 1), (gN 2)]) (m_ij CA) (.tup [.int (pre.length : Nat), sD s] :: pairsFrom (pre.length + 1) (post.map sD)) _ bx = _
    rw [loop_nx (ρ1 := [some (.tup (all.map sD)), some (.int pre.length), some (sD s), o3, o4, o5]) rfl (ij_body hc ha)]
    exact e
theorem c_is_joined (CA : Ly) (hc : Canon st) : r__law_is_joined CA [.tup (st.map sD)] bx = OK (.bl true) bx := by
  refine (ar_ok rfl).trans (body_rt (b := bx) ?_ rfl)
  show m__law_is_joined CA [some (.tup (st.map sD)), none, none, none, none, none] bx = _
  rw [m_ij_eq]
  have e1 := ev_not (isi_ev (CA := CA) (bx := bx) (i := 0) (ρ := [some (.tup (st.map sD)), none, none, none, none, none]) (y := .tup (st.map sD)) (t := 4) rfl rfl ty_tup (by decide))
  obtain ⟨q1, q2, q3, q4, q5, e⟩ := ij_loop (CA := CA) (bx := bx) hc st [] none none none none none rfl
  rw [ev_seq (ev_no (m := mRet (mC (.bl false))) e1), ev_seq ((ev_for (ds := pairsFrom 0 (st.map sD)) (b := bx) rfl).trans e)]
  rfl
/-! ### is_right -/
theorem fld_e {i : Nat} {ρ : Sl} (h : ρ[i]? = some (some (rD a))) : mUn (fldD "parts" [0]) (mVar i) ρ bx = .ok (.val (.tup (a.map sD))) bx := fld_v h
theorem list_e {i : Nat} {ρ : Sl} (h : ρ[i]? = some (some (rD a))) : mCB (un1 listD) (aCons (mUn (fldD "parts" [0]) (mVar i)) aNil) ρ bx = .ok (.new (.lst (a.map sD))) bx := by
  rw [ev_CB (ev_cons (fld_v h) ev_nil)]
  rfl
theorem c_right (CA : Ly) (ha : St n a) (hn : n ≤ 400000) (hl : st.length ≤ 400000) (hm : ∀ k, mem a k ↔ mem st k) (hv : ∀ s ∈ st, okS s) : r__law_is_right CA [rD a, .lst (st.map sD)] bx = OK (.bl true) bx := by
  have hal := ha.l
  refine (ar_ok rfl).trans (body_rt (b := bx) ?_ rfl)
  show m__law_is_right CA [some (rD a), some (.lst (st.map sD)), none, none] bx = _
  have e1 : mOr (mNot (mTest (mF (r__law_is_joined CA) (aCons (mUn (fldD "parts" [0]) (mVar 0)) aNil)))) (mNot (mTest (mF (r__law_same CA) (aCons (mCB (un1 listD) (aCons (mUn (fldD "parts" [0]) (mVar 0)) aNil)) (aCons (mVar 1) aNil))))) [some (rD a), some (.lst (st.map sD)), none, none] bx = .ok false bx := by
    have f1 := ev_test ((ev_F (mf := r__law_is_joined CA) (ev_cons (fld_v (bx := bx) (ρ := [some (rD a), some (.lst (st.map sD)), none, none]) (i := 0) (a := a) rfl) ev_nil)).trans (c_is_joined CA ha.c))
    have f2 := (ev_F (mf := r__law_same CA) (ev_cons (list_e (bx := bx) (ρ := [some (rD a), some (.lst (st.map sD)), none, none]) (i := 0) (a := a) rfl) (ev_cons (m := mVar 1) (r := .val (.lst (st.map sD))) (b := bx) rfl ev_nil))).trans (c_same CA (a := a) (b := st) (by omega))
    rw [same_true hm] at f2
    exact (ev_orF (ev_not f1)).trans (ev_not (ev_test f2))
  obtain ⟨ρ2, e2, o2, o3, rfl⟩ := loop_all (g := gN 2) (m := mIfS (mTest (mBin neD (mBin (fun x y bx => noX (inC 0 (r_Ranges___contains__ CA) posO x y bx)) (mVar 2) (mVar 0)) (mF (r__law_has CA) (aCons (mVar 1) (aCons (mVar 2) aNil))))) (mRet (mC (.bl false))) mSkip) (bx := bx) (fun ρ => ∃ o2 o3, ρ = [some (rD a), some (.lst (st.map sD)), o2, o3]) ((points st).map .int) (fun d hd ρ hs => by
    obtain ⟨o2, o3, rfl⟩ := hs
    obtain ⟨i, _, rfl⟩ := List.mem_map.mp hd
    refine ⟨[some (rD a), some (.lst (st.map sD)), some (.int i), o3], [some (rD a), some (.lst (st.map sD)), some (.int i), o3], rfl, ?_, _, _, rfl⟩
    have f1 : mBin (fun x y bx => noX (inC 0 (r_Ranges___contains__ CA) posO x y bx)) (mVar 2) (mVar 0) [some (rD a), some (.lst (st.map sD)), some (.int i), o3] bx = .ok (.val (.bl (hasB a i))) bx := (ev_bin (r := .val (.int i)) (r' := .val (rD a)) (b := bx) (b' := bx) rfl rfl).trans (q_in CA i (by unfold sizeLine; omega))
    have f2 : mF (r__law_has CA) (aCons (mVar 1) (aCons (mVar 2) aNil)) [some (rD a), some (.lst (st.map sD)), some (.int i), o3] bx = OK (.bl (hasB st i)) bx := (ev_F (ev_cons (r := .val (.lst (st.map sD))) (b := bx) rfl (ev_cons (r := .val (.int i)) (b := bx) rfl ev_nil))).trans (c_has CA i rfl)
    have f3 := ev_test ((ev_bin f1 f2).trans (ne_bb (hasB a i) (hasB st i) bx))
    rw [hasB_eq hm i, show (hasB st i != hasB st i) = false by simp] at f3
    exact ev_no f3) [some (rD a), some (.lst (st.map sD)), none, none] ⟨none, none, rfl⟩
  have e2' : iSeq (mF (r__law_points CA) (aCons (mVar 1) aNil)) [some (rD a), some (.lst (st.map sD)), none, none] bx = .ok ((points st).map .int) bx :=
    ev_iseq ((ev_F (ev_cons (r := .val (.lst (st.map sD))) (b := bx) rfl ev_nil)).trans (c_points CA rfl (by omega))) rfl
  have e3' : iSeq (mLst (aCons (mC .non) (aCons (mC (.bl true)) (aCons (mC (.bl false)) (aCons (mC (.str "0")) (aCons (mC (.str "")) (aCons (mTup (aCons (mC (.int 0)) aNil)) (aCons (mLst aNil) (aCons (mLst (aCons (mC (.int 0)) aNil)) (aCons (mDic [] []) (aCons (mDic [.inl 0] [.int 0]) (aCons (mUn (fldD "parts" [0]) (mVar 0)) aNil)))))))))))) [some (rD a), some (.lst (st.map sD)), o2, o3] bx = .ok [.non, .bl true, .bl false, .str "0", .str "", .tup [.int 0], .lst [], .lst [.int 0], .dk [] [], .dk [.inl 0] [.int 0], .tup (a.map sD)] bx := by
    refine ev_iseq (r := .new (.lst [.non, .bl true, .bl false, .str "0", .str "", .tup [.int 0], .lst [], .lst [.int 0], .dk [] [], .dk [.inl 0] [.int 0], .tup (a.map sD)])) ?_ rfl
    unfold mLst
    rw [ev_cons (r := .val .non) (b := bx) rfl (ev_cons (r := .val (.bl true)) (b := bx) rfl (ev_cons (r := .val (.bl false)) (b := bx) rfl (ev_cons (r := .val (.str "0")) (b := bx) rfl (ev_cons (r := .val (.str "")) (b := bx) rfl (ev_cons (r := .val (.tup [.int 0])) (b := bx) rfl (ev_cons (r := .new (.lst [])) (b := bx) rfl (ev_cons (r := .new (.lst [.int 0])) (b := bx) rfl (ev_cons (r := .new (.dk [] [])) (b := bx) rfl (ev_cons (r := .new (.dk [.inl 0] [.int 0])) (b := bx) rfl (ev_cons (fld_v (a := a) rfl) ev_nil))))))))))]
    rfl
  obtain ⟨ρ3, e3, q2, q3, rfl⟩ := loop_all (g := gN 3) (m := mIfS (mTest (mBin (fun x y bx => noX (inC 0 (r_Ranges___contains__ CA) posO x y bx)) (mVar 3) (mVar 0))) (mRet (mC (.bl false))) mSkip) (bx := bx) (fun ρ => ∃ o2 o3, ρ = [some (rD a), some (.lst (st.map sD)), o2, o3]) [.non, .bl true, .bl false, .str "0", .str "", .tup [.int 0], .lst [], .lst [.int 0], .dk [] [], .dk [.inl 0] [.int 0], .tup (a.map sD)] (fun d hd ρ hs => by
    obtain ⟨o2, o3, rfl⟩ := hs
    refine ⟨[some (rD a), some (.lst (st.map sD)), o2, some d], [some (rD a), some (.lst (st.map sD)), o2, some d], rfl, ?_, _, _, rfl⟩
    have key : ∃ t, d.tc bx = some t ∧ t ∈ codes [0] ∧ t ≠ 2 := by
      simp only [List.mem_cons, List.not_mem_nil, or_false] at hd
      rcases hd with rfl | rfl | rfl | rfl | rfl | rfl | rfl | rfl | rfl | rfl | rfl
      · exact ⟨0, rfl, by decide, by decide⟩
      · exact ⟨1, rfl, by decide, by decide⟩
      · exact ⟨1, rfl, by decide, by decide⟩
      · exact ⟨3, rfl, by decide, by decide⟩
      · exact ⟨3, rfl, by decide, by decide⟩
      · exact ⟨4, rfl, by decide, by decide⟩
      · exact ⟨5, rfl, by decide, by decide⟩
      · exact ⟨5, rfl, by decide, by decide⟩
      · exact ⟨6, rfl, by decide, by decide⟩
      · exact ⟨6, rfl, by decide, by decide⟩
      · exact ⟨4, rfl, by decide, by decide⟩
    obtain ⟨t, h1, h2, h3⟩ := key
    exact ev_no (ev_test ((ev_bin (r := .val d) (r' := .val (rD a)) (b := bx) (b' := bx) rfl rfl).trans (q_ino CA h1 h2 h3)))) [some (rD a), some (.lst (st.map sD)), o2, o3] ⟨o2, o3, rfl⟩
  unfold m__law_is_right
  rw [ev_seq (ev_no e1), ev_seq ((ev_for e2').trans e2), ev_seq ((ev_for e3').trans e3)]
  refine ev_ret ?_
  have g1 : mCB (un1 fun x bx => noX (boolC 0 (r_Ranges___bool__ CA) x bx)) (aCons (mVar 0) aNil) [some (rD a), some (.lst (st.map sD)), q2, q3] bx = .ok (.val (.bl (!a.isEmpty))) bx := (ev_CB (ev_cons (r := .val (rD a)) (b := bx) rfl ev_nil)).trans (q_bool CA a)
  have g2 : mBin neD (mVar 1) (mLst aNil) [some (rD a), some (.lst (st.map sD)), q2, q3] bx = .ok (.val (.bl (!st.isEmpty))) bx := (ev_bin (r := .val (.lst (st.map sD))) (r' := .new (.lst [])) (b := bx) (b' := bx) rfl rfl).trans (nen_s st bx)
  rw [ev_bin g1 g2]
  show eqD (.bl (!a.isEmpty)) (.bl (!st.isEmpty)) bx = _
  rw [eq_bb]
  have hh : a.isEmpty = st.isEmpty := by
    cases a with
    | nil => cases st with
      | nil => rfl
      | cons s st => exact absurd ((hm _).mpr ((mem_cons s st (aNum s)).mpr (.inl (aNum_in s (hv s (List.mem_cons_self ..)))))) (mem_nil _)
    | cons s a => cases st with
      | nil => exact absurd ((hm _).mp ((mem_cons s a (aNum s)).mpr (.inl (aNum_in s (ha.c.ok s (List.mem_cons_self ..)))))) (mem_nil _)
      | cons _ _ => rfl
  rw [hh]
  simp
/-! ### alike -/
theorem c_alike {k due : Bool} (h1 : noX (eqC [0] 0 (r_Ranges___eq__ CA) x y bx) = .ok (.val (.bl k)) bx) (h2 : noX (eqC [0] 0 (r_Ranges___eq__ CA) y x bx) = .ok (.val (.bl k)) bx) (h3 : noX (neC [0] 0 (r_Ranges___eq__ CA) x y bx) = .ok (.val (.bl (!k))) bx) (h4 : noX (neC [0] 0 (r_Ranges___eq__ CA) y x bx) = .ok (.val (.bl (!k))) bx) :
    r__law_alike CA [x, y, .bl due] bx = OK (.bl (k == due)) bx := by
  refine (ar_ok rfl).trans (body_rt (b := bx) ?_ rfl)
  show m__law_alike CA [some x, some y, some (.bl due)] bx = _
  unfold m__law_alike
  refine ev_ret ?_
  have g1 : mLst (aCons (mBin (fun x y bx => noX (eqC [0] 0 (r_Ranges___eq__ CA) x y bx)) (mVar 0) (mVar 1)) (aCons (mBin (fun x y bx => noX (eqC [0] 0 (r_Ranges___eq__ CA) x y bx)) (mVar 1) (mVar 0)) (aCons (mBin (fun x y bx => noX (neC [0] 0 (r_Ranges___eq__ CA) x y bx)) (mVar 0) (mVar 1)) (aCons (mBin (fun x y bx => noX (neC [0] 0 (r_Ranges___eq__ CA) x y bx)) (mVar 1) (mVar 0)) aNil)))) [some x, some y, some (.bl due)] bx = .ok (.new (.lst [.bl k, .bl k, .bl !k, .bl !k])) bx := by
    unfold mLst
    rw [ev_cons ((ev_bin (r := .val x) (r' := .val y) (b := bx) (b' := bx) rfl rfl).trans h1) (ev_cons ((ev_bin (r := .val y) (r' := .val x) (b := bx) (b' := bx) rfl rfl).trans h2) (ev_cons ((ev_bin (r := .val x) (r' := .val y) (b := bx) (b' := bx) rfl rfl).trans h3) (ev_cons ((ev_bin (r := .val y) (r' := .val x) (b := bx) (b' := bx) rfl rfl).trans h4) ev_nil)))]
    rfl
  have g2 : mLst (aCons (mVar 2) (aCons (mVar 2) (aCons (mNotV (mVar 2)) (aCons (mNotV (mVar 2)) aNil)))) [some x, some y, some (.bl due)] bx = .ok (.new (.lst [.bl due, .bl due, .bl !due, .bl !due])) bx := rfl
  rw [ev_bin g1 g2]
  cases k <;> cases due <;> rfl
theorem alike_r (CA : Ly) (a b : List Stretch) (due : Bool) : r__law_alike CA [rD a, rD b, .bl due] bx = OK (.bl (decide (a = b) == due)) bx := by
  have e : decide (b = a) = decide (a = b) := decide_eq_decide.mpr eq_comm
  refine c_alike (q_eq CA a b) ?_ (q_ne CA a b) ?_
  · rw [q_eq, e]
  · rw [q_ne, e]
theorem alike_odd (CA : Ly) (a : List Stretch) {t : Nat} (hy : y.tc bx = some t) (ht : t ∈ [0, 1, 2, 3, 4, 5]) (ho : y.obj bx = none) : r__law_alike CA [rD a, y, .bl false] bx = OK (.bl true) bx :=
  c_alike (k := false) (q_eqo CA a hy ht) (q_eqo' CA a hy ht ho) (q_neo CA a hy ht) (q_neo' CA a hy ht ho)
theorem St.eq_iff (ha : St n a) (hb : St m b) : a = b ↔ ∀ k, mem a k ↔ mem b k := ⟨fun h k => by rw [h], canon_unique a b ha.c hb.c⟩
end
end K0

set_option Elab.async false
set_option linter.all false
set_option maxRecDepth 100000
set_option maxHeartbeats 4000000
/-! K16: outcomes; expressions that are sets. -/
namespace DL
open PySem
theorem ev_par2 {i j : Nat} {m : MA} {ρ : Sl} {bx b : List D} {u v : D} (h : m ρ bx = .ok [u, v] b) : mPar2 i j m ρ bx = .nx ((ρ.set i (some u)).set j (some v)) b := by
  unfold mPar2; rw [h]; rfl
theorem ev_par3 {i j l : Nat} {m : MA} {ρ : Sl} {bx b : List D} {u v w : D} (h : m ρ bx = .ok [u, v, w] b) : mPar3 i j l m ρ bx = .nx (((ρ.set i (some u)).set j (some v)).set l (some w)) b := by
  unfold mPar3; rw [h]; rfl
theorem ev_var {i : Nat} {ρ : Sl} {bx : List D} {d : D} (h : ρ[i]? = some (some d)) : mVar i ρ bx = .ok (.val d) bx := by
  unfold mVar; rw [h]
end DL
namespace K0
open PySem DL
section
variable {CA : Ly} {bx : List D} {n m N M : Nat} {a b c st : List Stretch} {x y : D} {ρ : Sl} {P Q : Int → Prop} {e f : ME}
/-! ### outcome_right -/
def dueB (c1 c2 p q : Bool) : Bool := if c2 then p && !q else if c1 then p && q else p || q
def m_oc (CA : Ly) : MS := (mSeq (mPar2 5 6 (aCons (mF (r__law_has CA) (aCons (mVar 1) (aCons (mVar 4) aNil))) (aCons (mF (r__law_has CA) (aCons (mVar 2) (aCons (mVar 4) aNil))) aNil)))
   (mSeq (mAsg (mOrV (mVar 5) (mVar 6)) (gN 7))
   (mSeq (mIfS (mTest (mBin eqD (mVar 3) (mC (.str "common")))) (mAsg (mAndV (mVar 5) (mVar 6)) (gN 7)) mSkip)
   (mSeq (mIfS (mTest (mBin eqD (mVar 3) (mC (.str "less")))) (mAsg (mAndV (mVar 5) (mNotV (mVar 6))) (gN 7)) mSkip)
   (mIfS (mOr (mTest (mBin neD (mBin (fun x y bx => noX (inC 0 (r_Ranges___contains__ CA) posO x y bx)) (mVar 4) (mVar 0)) (mVar 7))) (mTest (mBin neD (mF (r__law_has CA) (aCons (mCB (un1 listD) (aCons (mUn (fldD "parts" [0]) (mVar 0)) aNil)) (aCons (mVar 4) aNil))) (mVar 7)))) (mRet (mC (.bl false))) mSkip)))))
theorem m_oc_eq (CA : Ly) : m__law_outcome_right CA = (mSeq (mIfS (mNot (mTest (mF (r__law_is_joined CA) (aCons (mUn (fldD "parts" [0]) (mVar 0)) aNil)))) (mRet (mC (.bl false))) mSkip)
  (mSeq (mFor (iSeq (mF (r__law_points CA) (aCons (mBin addL (mBin addL (mVar 1) (mVar 2)) (mCB (un1 listD) (aCons (mUn (fldD "parts" [0]) (mVar 0)) aNil))) aNil))) (gN 4) (m_oc CA))
  (mRet (mC (.bl true))))) := rfl
abbrev O8 (c a b : List Stretch) (w : PySem.Str) (i : Int) (o5 o6 o7 : Option D) : Sl := [some (rD c), some (.lst (a.map sD)), some (.lst (b.map sD)), some (.str w), some (.int i), o5, o6, o7]
theorem oc_ok (CA : Ly) {w : PySem.Str} {c1 c2 : Bool} {i : Int} {o5 o6 o7 : Option D} (h1 : eqD (.str w) (.str "common") bx = OK (.bl c1) bx) (h2 : eqD (.str w) (.str "less") bx = OK (.bl c2) bx) (hl : c.length ≤ 1000000) (hm : hasB c i = dueB c1 c2 (hasB a i) (hasB b i)) :
    m_oc CA (O8 c a b w i o5 o6 o7) bx = .nx (O8 c a b w i (some (.bl (hasB a i))) (some (.bl (hasB b i))) (some (.bl (dueB c1 c2 (hasB a i) (hasB b i))))) bx := by
  have e1 : mF (r__law_has CA) (aCons (mVar 1) (aCons (mVar 4) aNil)) (O8 c a b w i o5 o6 o7) bx = OK (.bl (hasB a i)) bx := (ev_F (ev_cons (r := .val (.lst (a.map sD))) (b := bx) rfl (ev_cons (r := .val (.int i)) (b := bx) rfl ev_nil))).trans (c_has CA i rfl)
  have e2 : mF (r__law_has CA) (aCons (mVar 2) (aCons (mVar 4) aNil)) (O8 c a b w i o5 o6 o7) bx = OK (.bl (hasB b i)) bx := (ev_F (ev_cons (r := .val (.lst (b.map sD))) (b := bx) rfl (ev_cons (r := .val (.int i)) (b := bx) rfl ev_nil))).trans (c_has CA i rfl)
  have s1 : mPar2 5 6 (aCons (mF (r__law_has CA) (aCons (mVar 1) (aCons (mVar 4) aNil))) (aCons (mF (r__law_has CA) (aCons (mVar 2) (aCons (mVar 4) aNil))) aNil)) (O8 c a b w i o5 o6 o7) bx = .nx (O8 c a b w i (some (.bl (hasB a i))) (some (.bl (hasB b i))) o7) bx := ev_par2 (ev_cons e1 (ev_cons e2 ev_nil))
  generalize hasB a i = p at *
  generalize hasB b i = q at *
  have s2 : mAsg (mOrV (mVar 5) (mVar 6)) (gN 7) (O8 c a b w i (some (.bl p)) (some (.bl q)) o7) bx = .nx (O8 c a b w i (some (.bl p)) (some (.bl q)) (some (.bl (p || q)))) bx := by cases p <;> rfl
  have t1 : mTest (mBin eqD (mVar 3) (mC (.str "common"))) (O8 c a b w i (some (.bl p)) (some (.bl q)) (some (.bl (p || q)))) bx = .ok c1 bx := ev_test ((ev_bin (r := .val (.str w)) (r' := .val (.str "common")) (b := bx) (b' := bx) rfl rfl).trans h1)
  have s3 : mIfS (mTest (mBin eqD (mVar 3) (mC (.str "common")))) (mAsg (mAndV (mVar 5) (mVar 6)) (gN 7)) mSkip (O8 c a b w i (some (.bl p)) (some (.bl q)) (some (.bl (p || q)))) bx = .nx (O8 c a b w i (some (.bl p)) (some (.bl q)) (some (.bl (if c1 then p && q else p || q)))) bx := by
    cases c1 with
    | true => rw [ev_ifT t1]; cases p <;> rfl
    | false => rw [ev_no t1]; rfl
  have t2 : mTest (mBin eqD (mVar 3) (mC (.str "less"))) (O8 c a b w i (some (.bl p)) (some (.bl q)) (some (.bl (if c1 then p && q else p || q)))) bx = .ok c2 bx := ev_test ((ev_bin (r := .val (.str w)) (r' := .val (.str "less")) (b := bx) (b' := bx) rfl rfl).trans h2)
  have s4 : mIfS (mTest (mBin eqD (mVar 3) (mC (.str "less")))) (mAsg (mAndV (mVar 5) (mNotV (mVar 6))) (gN 7)) mSkip (O8 c a b w i (some (.bl p)) (some (.bl q)) (some (.bl (if c1 then p && q else p || q)))) bx = .nx (O8 c a b w i (some (.bl p)) (some (.bl q)) (some (.bl (dueB c1 c2 p q)))) bx := by
    cases c2 with
    | true => rw [ev_ifT t2]; cases p <;> rfl
    | false => rw [ev_no t2]; rfl
  have g1 : mBin (fun x y bx => noX (inC 0 (r_Ranges___contains__ CA) posO x y bx)) (mVar 4) (mVar 0) (O8 c a b w i (some (.bl p)) (some (.bl q)) (some (.bl (dueB c1 c2 p q)))) bx = .ok (.val (.bl (hasB c i))) bx := (ev_bin (r := .val (.int i)) (r' := .val (rD c)) (b := bx) (b' := bx) rfl rfl).trans (q_in CA i (by unfold sizeLine; omega))
  have g2 : mF (r__law_has CA) (aCons (mCB (un1 listD) (aCons (mUn (fldD "parts" [0]) (mVar 0)) aNil)) (aCons (mVar 4) aNil)) (O8 c a b w i (some (.bl p)) (some (.bl q)) (some (.bl (dueB c1 c2 p q)))) bx = OK (.bl (hasB c i)) bx := (ev_F (ev_cons (list_e (a := c) rfl) (ev_cons (r := .val (.int i)) (b := bx) rfl ev_nil))).trans (c_has CA i rfl)
  have g3 := ev_test ((ev_bin (m' := mVar 7) g1 (r' := .val (.bl (dueB c1 c2 p q))) (b' := bx) rfl).trans (ne_bb (hasB c i) (dueB c1 c2 p q) bx))
  have g4 := ev_test ((ev_bin (m' := mVar 7) g2 (r' := .val (.bl (dueB c1 c2 p q))) (b' := bx) rfl).trans (ne_bb (hasB c i) (dueB c1 c2 p q) bx))
  rw [hm, show (dueB c1 c2 p q != dueB c1 c2 p q) = false by simp] at g3 g4
  unfold m_oc
  rw [ev_seq s1, ev_seq s2, ev_seq s3, ev_seq s4, ev_no ((ev_orF g3).trans g4)]
theorem c_outcome (CA : Ly) {w : PySem.Str} {c1 c2 : Bool} (h1 : eqD (.str w) (.str "common") bx = OK (.bl c1) bx) (h2 : eqD (.str w) (.str "less") bx = OK (.bl c2) bx) (hc : St n c) (hn : n ≤ 100000) (ha : a.length ≤ 100000) (hb : b.length ≤ 100000) (hm : ∀ i, hasB c i = dueB c1 c2 (hasB a i) (hasB b i)) :
    r__law_outcome_right CA [rD c, .lst (a.map sD), .lst (b.map sD), .str w] bx = OK (.bl true) bx := by
  have hcl := hc.l
  refine (ar_ok rfl).trans (body_rt (b := bx) ?_ rfl)
  show m__law_outcome_right CA [some (rD c), some (.lst (a.map sD)), some (.lst (b.map sD)), some (.str w), none, none, none, none] bx = _
  rw [m_oc_eq]
  have e1 := ev_not (ev_test ((ev_F (mf := r__law_is_joined CA) (ev_cons (fld_v (bx := bx) (ρ := [some (rD c), some (.lst (a.map sD)), some (.lst (b.map sD)), some (.str w), none, none, none, none]) (i := 0) (a := c) rfl) ev_nil)).trans (c_is_joined CA hc.c)))
  have e2 : iSeq (mF (r__law_points CA) (aCons (mBin addL (mBin addL (mVar 1) (mVar 2)) (mCB (un1 listD) (aCons (mUn (fldD "parts" [0]) (mVar 0)) aNil))) aNil)) [some (rD c), some (.lst (a.map sD)), some (.lst (b.map sD)), some (.str w), none, none, none, none] bx = .ok ((points (a ++ b ++ c)).map .int) bx := by
    refine ev_iseq (r := .val (.lst ((points (a ++ b ++ c)).map .int))) ?_ rfl
    have f1 := ev_addL (m := mVar 1) (m' := mVar 2) (ρ := [some (rD c), some (.lst (a.map sD)), some (.lst (b.map sD)), some (.str w), none, none, none, none]) (bx := bx) (b := bx) (b' := bx) (r := .val (.lst (a.map sD))) (r' := .val (.lst (b.map sD))) rfl rfl rfl rfl (by simp; unfold sizeLine; omega)
    have f2 := ev_addL f1 (list_e (bx := bx) (ρ := [some (rD c), some (.lst (a.map sD)), some (.lst (b.map sD)), some (.str w), none, none, none, none]) (i := 0) (a := c) rfl) rfl rfl (by simp; unfold sizeLine; omega)
    rw [ev_F (ev_cons f2 ev_nil)]
    exact c_points CA (by show some _ = _; rw [List.map_append, List.map_append]) (by rw [List.length_append, List.length_append]; omega)
  obtain ⟨ρ2, e3, o4, o5, o6, o7, rfl⟩ := loop_all (g := gN 4) (m := m_oc CA) (bx := bx) (fun ρ => ∃ o4 o5 o6 o7, ρ = [some (rD c), some (.lst (a.map sD)), some (.lst (b.map sD)), some (.str w), o4, o5, o6, o7]) ((points (a ++ b ++ c)).map .int) (fun d hd ρ hs => by
    obtain ⟨o4, o5, o6, o7, rfl⟩ := hs
    obtain ⟨i, _, rfl⟩ := List.mem_map.mp hd
    exact ⟨O8 c a b w i o5 o6 o7, _, rfl, oc_ok CA h1 h2 (by omega) (hm i), _, _, _, _, rfl⟩) [some (rD c), some (.lst (a.map sD)), some (.lst (b.map sD)), some (.str w), none, none, none, none] ⟨none, none, none, none, rfl⟩
  rw [ev_seq (ev_no e1), ev_seq ((ev_for e2).trans e3)]
  rfl
/-! ### is_less -/
theorem c_less (CA : Ly) (ha : a.length ≤ 10000) (hb : b.length ≤ 10000) (hlo : ∀ s ∈ a ++ b, lowS s) : ∃ k : Bool, r__law_is_less CA [.lst (a.map sD), .lst (b.map sD)] bx = .ok (.val (.bl k)) bx ∧ (k = true ↔ ∀ i, mem a i → mem b i) := by
  have pl : (points (a ++ b)).length ≤ 1000000 := by
    unfold points
    have : ∀ ss : List Stretch, (ss.flatMap fun s => ptsOf s.1 ++ ptsOf s.2).length ≤ 6 * ss.length := fun ss => by
      induction ss with
      | nil => simp
      | cons s ss ih =>
        have h1 := pts_len s.1
        have h2 := pts_len s.2
        rw [List.flatMap_cons, List.length_append, List.length_append, List.length_cons]
        omega
    have h := this (a ++ b)
    rw [List.length_append] at h ⊢
    have : pts0.length = 5 := rfl
    omega
  have e1 : iSeq (mF (r__law_points CA) (aCons (mBin addL (mVar 0) (mVar 1)) aNil)) [some (.lst (a.map sD)), some (.lst (b.map sD)), none, none] bx = .ok ((points (a ++ b)).map .int) bx := by
    refine ev_iseq (r := .val (.lst ((points (a ++ b)).map .int))) ?_ rfl
    have f1 := ev_addL (m := mVar 0) (m' := mVar 1) (ρ := [some (.lst (a.map sD)), some (.lst (b.map sD)), none, none]) (bx := bx) (b := bx) (b' := bx) (r := .val (.lst (a.map sD))) (r' := .val (.lst (b.map sD))) rfl rfl rfl rfl (by simp; unfold sizeLine; omega)
    rw [ev_F (ev_cons f1 ev_nil)]
    exact c_points CA (by show some _ = _; rw [List.map_append]) (by rw [List.length_append]; omega)
  have e2 := comp_filter (g := gN 3) (t := mTest (mF (r__law_has CA) (aCons (mVar 0) (aCons (mVar 3) aNil)))) (m := mVar 3) (bx := bx) D.int (hasB a) D.int (fun ρ => ∃ o, ρ = [some (.lst (a.map sD)), some (.lst (b.map sD)), none, o]) (points (a ++ b)) (fun i _ ρ hs => by
    obtain ⟨o, rfl⟩ := hs
    exact ⟨[some (.lst (a.map sD)), some (.lst (b.map sD)), none, some (.int i)], rfl, ⟨_, rfl⟩, ev_test ((ev_F (ev_cons (r := .val (.lst (a.map sD))) (b := bx) rfl (ev_cons (r := .val (.int i)) (b := bx) rfl ev_nil))).trans (c_has CA i rfl)), fun _ => rfl⟩) [some (.lst (a.map sD)), some (.lst (b.map sD)), none, none] [] ⟨none, rfl⟩ (by simp; unfold sizeLine; omega)
  rw [List.nil_append] at e2
  generalize hmine : (points (a ++ b)).filter (hasB a) = mine at e2
  have ml : mine.length ≤ 1000000 := by rw [← hmine]; exact Nat.le_trans (List.length_filter_le ..) pl
  have s1 : mAsg (mComp (iSeq (mF (r__law_points CA) (aCons (mBin addL (mVar 0) (mVar 1)) aNil))) (([("number", 3)] : List (PySem.Str × Nat)).map (·.2)) (gN 3) (mTest (mF (r__law_has CA) (aCons (mVar 0) (aCons (mVar 3) aNil)))) (mVar 3)) (gN 2) [some (.lst (a.map sD)), some (.lst (b.map sD)), none, none] bx = .nx [some (.lst (a.map sD)), some (.lst (b.map sD)), some (.lst (mine.map .int)), none] bx := by
    refine ev_asg (i := 2) (r := .new (.lst (mine.map .int))) ?_
    unfold mComp
    rw [e1]
    show (compL _ _ _ ((points (a ++ b)).map D.int) [some (.lst (a.map sD)), some (.lst (b.map sD)), none, none] bx []).bind _ = _
    rw [e2]
    rfl
  have e3 := comp_filter (g := gN 3) (t := mNot (mTest (mF (r__law_has CA) (aCons (mVar 1) (aCons (mVar 3) aNil))))) (m := mVar 3) (bx := bx) D.int (fun i => !hasB b i) D.int (fun ρ => ∃ o, ρ = [some (.lst (a.map sD)), some (.lst (b.map sD)), some (.lst (mine.map .int)), o]) mine (fun i _ ρ hs => by
    obtain ⟨o, rfl⟩ := hs
    exact ⟨[some (.lst (a.map sD)), some (.lst (b.map sD)), some (.lst (mine.map .int)), some (.int i)], rfl, ⟨_, rfl⟩, ev_not (ev_test ((ev_F (ev_cons (r := .val (.lst (b.map sD))) (b := bx) rfl (ev_cons (r := .val (.int i)) (b := bx) rfl ev_nil))).trans (c_has CA i rfl))), fun _ => rfl⟩) [some (.lst (a.map sD)), some (.lst (b.map sD)), some (.lst (mine.map .int)), none] [] ⟨none, rfl⟩ (by simp; unfold sizeLine; omega)
  rw [List.nil_append] at e3
  refine ⟨(mine.filter fun i => !hasB b i).isEmpty, ?_, ?_⟩
  · refine (ar_ok rfl).trans (body_rt (b := bx) ?_ rfl)
    show m__law_is_less CA [some (.lst (a.map sD)), some (.lst (b.map sD)), none, none] bx = _
    unfold m__law_is_less
    rw [ev_seq s1]
    refine ev_ret ?_
    have s2 : mComp (iSeq (mVar 2)) (([("number", 3)] : List (PySem.Str × Nat)).map (·.2)) (gN 3) (mNot (mTest (mF (r__law_has CA) (aCons (mVar 1) (aCons (mVar 3) aNil))))) (mVar 3) [some (.lst (a.map sD)), some (.lst (b.map sD)), some (.lst (mine.map .int)), none] bx = .ok (.new (.lst ((mine.filter fun i => !hasB b i).map .int))) bx := by
      unfold mComp
      show (compL _ _ _ (mine.map D.int) [some (.lst (a.map sD)), some (.lst (b.map sD)), some (.lst (mine.map .int)), none] bx []).bind _ = _
      rw [e3]
      rfl
    rw [ev_bin s2 (r' := .new (.lst [])) (b' := bx) rfl]
    exact eqn_i _ bx
  · rw [List.isEmpty_iff, List.filter_eq_nil_iff, ← hmine]
    constructor
    · intro h
      refine by_points hlo (fun p q => p → q) fun i hi q => ?_
      have h1 := h i (List.mem_filter.mpr ⟨hi, (hasB_iff a i).mpr q⟩)
      rw [← hasB_iff]
      simpa using h1
    · intro h i hi
      have h1 := h i ((hasB_iff a i).mp (List.mem_filter.mp hi).2)
      rw [← hasB_iff] at h1
      simp [h1]
/-! ### expressions that are sets -/
def SV (e : ME) (ρ : Sl) (bx : List D) (N : Nat) (P : Int → Prop) : Prop := ∃ r c, e ρ bx = .ok r bx ∧ r.d = rD c ∧ St N c ∧ ∀ k, mem c k ↔ P k
abbrev eOr (CA : Ly) (e f : ME) : ME := mBin (fun x y bx => noX (binC 0 (r_Ranges___or__ CA) x y bx)) e f
abbrev eAnd (CA : Ly) (e f : ME) : ME := mBin (fun x y bx => noX (binC 0 (r_Ranges___and__ CA) x y bx)) e f
abbrev eSub (CA : Ly) (e f : ME) : ME := mBin (fun x y bx => noX (binC 0 (r_Ranges___sub__ CA) x y bx)) e f
abbrev eNe (CA : Ly) (e f : ME) : ME := mBin (fun x y bx => noX (neC [0] 0 (r_Ranges___eq__ CA) x y bx)) e f
theorem sv_var {i : Nat} (h : ρ[i]? = some (some (rD a))) (ha : St N a) : SV (mVar i) ρ bx N (mem a) := ⟨_, a, ev_var h, rfl, ha, fun _ => Iff.rfl⟩
theorem sv_or (hb : Cb bx) (h1 : SV e ρ bx N P) (h2 : SV f ρ bx M Q) (hl : N + M ≤ 1000000) : SV (eOr CA e f) ρ bx (N + M) (fun k => P k ∨ Q k) := by
  obtain ⟨r, c, e1, d1, s1, m1⟩ := h1
  obtain ⟨r', c', e2, d2, s2, m2⟩ := h2
  obtain ⟨z, e3, s3, m3⟩ := o_or CA hb s1 s2 hl
  exact ⟨_, z, (ev_bin e1 e2).trans (by rw [d1, d2]; exact e3), rfl, s3, fun k => by rw [m3, m1, m2]⟩
theorem sv_and (hb : Cb bx) (h1 : SV e ρ bx N P) (h2 : SV f ρ bx M Q) (hl : N * M ≤ 1000000) : SV (eAnd CA e f) ρ bx (N * M) (fun k => P k ∧ Q k) := by
  obtain ⟨r, c, e1, d1, s1, m1⟩ := h1
  obtain ⟨r', c', e2, d2, s2, m2⟩ := h2
  obtain ⟨z, e3, s3, m3⟩ := o_and CA hb s1 s2 hl
  exact ⟨_, z, (ev_bin e1 e2).trans (by rw [d1, d2]; exact e3), rfl, s3, fun k => by rw [m3, m1, m2]⟩
theorem sv_sub (hb : Cb bx) (h1 : SV e ρ bx N P) (h2 : SV f ρ bx M Q) (hl : N * (M + 1) ≤ 1000000) (hm : M ≤ 1000000) : SV (eSub CA e f) ρ bx (N * (M + 1)) (fun k => P k ∧ ¬ Q k) := by
  obtain ⟨r, c, e1, d1, s1, m1⟩ := h1
  obtain ⟨r', c', e2, d2, s2, m2⟩ := h2
  obtain ⟨z, e3, s3, m3⟩ := o_sub CA hb s1 s2 hl hm
  exact ⟨_, z, (ev_bin e1 e2).trans (by rw [d1, d2]; exact e3), rfl, s3, fun k => by rw [m3, m1, m2]⟩
theorem canon_full : Canon [(none, none)] := ⟨fun s hs => (by rw [List.mem_singleton.mp hs]; exact fun l h e => (nomatch e)), List.pairwise_singleton _ _⟩
theorem mem_full (k : Int) : mem [(none, none)] k ↔ True := by
  rw [mem_one]
  exact ⟨fun _ => trivial, fun _ => ⟨fun l h => (nomatch h), fun l h => (nomatch h)⟩⟩
theorem canon_nil : Canon [] := ⟨fun s h => by simp at h, List.Pairwise.nil⟩
theorem sv_full (hb : Cb bx) : SV (mCM (CA 0) (r_Ranges_full CA) (mC (.adr (CA 0))) aNil) ρ bx 1 (fun _ => True) :=
  ⟨_, [(none, none)], (ev_CM ev_nil).trans (o_full CA hb), rfl, ⟨canon_full, by simp⟩, mem_full⟩
theorem sv_empty (hb : Cb bx) : SV (mCM (CA 0) (r_Ranges_empty CA) (mC (.adr (CA 0))) aNil) ρ bx 0 (fun _ => False) :=
  ⟨_, [], (ev_CM ev_nil).trans (o_empty CA hb), rfl, ⟨canon_nil, by simp⟩, fun k => ⟨fun h => mem_nil k h, fun h => h.elim⟩⟩
theorem sv_between {ma mb : ME} {l h : Option Int} (hb : Cb bx) (h1 : ma ρ bx = .ok (.val (oD l)) bx) (h2 : mb ρ bx = .ok (.val (oD h)) bx) : SV (mCM (CA 0) (r_Ranges_between CA) (mC (.adr (CA 0))) (aCons ma (aCons mb aNil))) ρ bx 1 (inS (l, h)) := by
  obtain ⟨c, e, s, m⟩ := o_between CA l h hb
  exact ⟨_, c, (ev_CM (ev_cons h1 (ev_cons h2 ev_nil))).trans e, rfl, s, m⟩
theorem sv_of {ma : MA} {ns : List Int} (hb : Cb bx) (h1 : ma ρ bx = .ok (ns.map .int) bx) (hl : ns.length ≤ 100) : SV (mCM (CA 0) (r_Ranges_of CA) (mC (.adr (CA 0))) ma) ρ bx 100 (fun k => k ∈ ns) := by
  obtain ⟨c, e, s, m⟩ := o_of CA ns hl (by omega) hb
  exact ⟨_, c, (ev_CM h1).trans e, rfl, s, m⟩
theorem sv_ne (h1 : SV e ρ bx N P) (h2 : SV f ρ bx M Q) (h : ∀ k, P k ↔ Q k) : mTest (eNe CA e f) ρ bx = .ok false bx := by
  obtain ⟨r, c, e1, d1, s1, m1⟩ := h1
  obtain ⟨r', c', e2, d2, s2, m2⟩ := h2
  have hcc : c = c' := (s1.eq_iff s2).mpr fun k => by rw [m1, m2, h]
  refine ev_test ((ev_bin e1 e2).trans ?_)
  rw [d1, d2]
  show noX (neC [0] 0 (r_Ranges___eq__ CA) (rD c) (rD c') bx) = _
  rw [q_ne, hcc]
  simp
theorem sv_within (hb : Cb bx) (h1 : SV e ρ bx N P) (h2 : SV f ρ bx M Q) (hl : N * (M + 1) ≤ 1000000) (hm : M ≤ 1000000) : ∃ k : Bool, mMt 0 "is_within" (r_Ranges_is_within CA) e (aCons f aNil) ρ bx = .ok (.val (.bl k)) bx ∧ (k = true ↔ ∀ i, P i → Q i) := by
  obtain ⟨r, c, e1, d1, s1, m1⟩ := h1
  obtain ⟨r', c', e2, d2, s2, m2⟩ := h2
  obtain ⟨k, e3, hk⟩ := q_within CA hb s1 s2 hl hm
  refine ⟨k, ?_, hk.trans ⟨fun h i hi => (m2 i).mp (h i ((m1 i).mpr hi)), fun h i hi => (m2 i).mpr (h i ((m1 i).mp hi))⟩⟩
  unfold mMt
  rw [e1]
  simp only [Out.bind_ok]
  rw [d1]
  show (if 0 = 0 ∧ hasF "is_within" ["parts"] = false then ((aCons f aNil) ρ bx).bind fun ds b1 => r_Ranges_is_within CA (rD c :: ds) b1 else .stk) = _
  rw [if_pos ⟨rfl, by decide +kernel⟩, ev_cons e2 ev_nil, d2]
  exact e3
theorem sv_right {st : List Stretch} {mb : ME} {r : R} (h1 : SV e ρ bx N P) (hN : N ≤ 400000) (h2 : mb ρ bx = .ok r bx) (hd : r.d = .lst (st.map sD)) (hl : st.length ≤ 400000) (hm : ∀ k, P k ↔ mem st k) (hv : ∀ s ∈ st, okS s) : mTest (mF (r__law_is_right CA) (aCons e (aCons mb aNil))) ρ bx = .ok true bx := by
  obtain ⟨r', c, e1, d1, s1, m1⟩ := h1
  refine ev_test ((ev_F (ev_cons e1 (ev_cons h2 ev_nil))).trans ?_)
  rw [d1, hd]
  exact c_right CA s1 hN hl (fun k => by rw [m1, hm]) hv
end
end K0

set_option Elab.async false
set_option linter.all false
set_option maxRecDepth 100000
set_option maxHeartbeats 4000000
/-! K17: the first part. -/
namespace DL
open PySem
theorem ev_rng {j : Int} {ρ : Sl} {bx : List D} (h : -(2 ^ 62) ≤ j ∧ j < 2 ^ 62) : iRng1M (mC (.int j)) ρ bx = .ok (rng 0 j.toNat) bx := by
  show (if -(2 ^ 62) ≤ j ∧ j < 2 ^ 62 then Out.ok (rng 0 j.toNat) bx else .stk) = _
  rw [if_pos h]
theorem ev_forB {k n : Nat} {mi : ME} {g : D → Sl → Option Sl} {m : MS} {ρ : Sl} {bx : List D} (h : mi ρ bx = .ok (.val (.box n)) bx) : mForB k mi g m ρ bx = loopB g m n k 0 ρ bx := by
  unfold mForB; rw [h]; rfl
theorem ev_mifT {t : MB} {a b : ME} {ρ : Sl} {bx b' : List D} (h : t ρ bx = .ok true b') : mIf t a b ρ bx = a ρ b' := by unfold mIf; rw [h]; rfl
theorem ev_mifF {t : MB} {a b : ME} {ρ : Sl} {bx b' : List D} (h : t ρ bx = .ok false b') : mIf t a b ρ bx = b ρ b' := by unfold mIf; rw [h]; rfl
end DL
namespace K0
open PySem DL
def Done (o : OutS) : Prop := ∃ b, o = .rt (.val (.bl true)) b
section
variable {CA : Ly} {bx b' : List D} {n m N M : Nat} {a b c st : List Stretch} {x y : D} {ρ ρ' : Sl} {P Q : Int → Prop} {e f : ME} {s1 s2 : MS} {t : MB} {ma : MA} {u v : D}
theorem done_seq (h : s1 ρ bx = .nx ρ' b') (k : Done (s2 ρ' b')) : Done (mSeq s1 s2 ρ bx) := by rw [ev_seq h]; exact k
theorem done_asg {i : Nat} {r : R} (h : e ρ bx = .ok r b') (k : Done (s2 (ρ.set i (some r.d)) b')) : Done (mSeq (mAsg e (gN i)) s2 ρ bx) := done_seq (ev_asg h) k
theorem done_set {i : Nat} (h : SV e ρ bx N P) (k : ∀ c, St N c → (∀ k, mem c k ↔ P k) → Done (s2 (ρ.set i (some (rD c))) bx)) : Done (mSeq (mAsg e (gN i)) s2 ρ bx) := by
  obtain ⟨r, c, e1, d1, h1, h2⟩ := h
  refine done_asg e1 ?_
  rw [d1]
  exact k c h1 h2
theorem done_no (h : t ρ bx = .ok false bx) (k : Done (s2 ρ bx)) : Done (mSeq (mIfS t s1 mSkip) s2 ρ bx) := done_seq (ev_no h) k
theorem done_par2 {i j : Nat} (h : ma ρ bx = .ok [u, v] b') (k : Done (s2 ((ρ.set i (some u)).set j (some v)) b')) : Done (mSeq (mPar2 i j ma) s2 ρ bx) := done_seq (ev_par2 h) k
theorem sv_in {m : ME} {i : Int} (h1 : m ρ bx = .ok (.val (.int i)) bx) (h2 : SV e ρ bx N P) (hN : N ≤ 1000000) : ∃ k, mTest (mBin (fun x y bx => noX (inC 0 (r_Ranges___contains__ CA) posO x y bx)) m e) ρ bx = .ok k bx ∧ (k = true ↔ P i) := by
  obtain ⟨r, c, e1, d1, h3, h4⟩ := h2
  have hl := h3.l
  refine ⟨hasB c i, ev_test ((ev_bin h1 e1).trans ?_), (hasB_iff c i).trans (h4 i)⟩
  rw [d1]
  exact q_in CA i (by unfold sizeLine; omega)
theorem sv_ni {m : ME} {i : Int} (h1 : m ρ bx = .ok (.val (.int i)) bx) (h2 : SV e ρ bx N P) (hN : N ≤ 1000000) : ∃ k, mTest (mBin (fun x y bx => noX (inC 0 (r_Ranges___contains__ CA) negO x y bx)) m e) ρ bx = .ok k bx ∧ (k = false ↔ P i) := by
  obtain ⟨r, c, e1, d1, h3, h4⟩ := h2
  have hl := h3.l
  refine ⟨!hasB c i, ev_test ((ev_bin h1 e1).trans ?_), by rw [← h4, ← hasB_iff]; simp⟩
  rw [d1]
  exact q_ni CA i (by unfold sizeLine; omega)
theorem false_of {k : Bool} {p : Prop} (h : k = true ↔ p) (hp : ¬ p) : k = false := by
  cases k with
  | false => rfl
  | true => exact absurd (h.mp rfl) hp
end
/-! ### the sets -/
abbrev It := List Stretch × List Stretch
abbrev iD (it : It) : D := .tup [rD it.1, .lst (it.2.map sD)]
structure ItOk (n : Nat) (it : It) : Prop where
  s : St (2 * n) it.1
  m : ∀ k, mem it.1 k ↔ mem it.2 k
  g : ∀ s ∈ it.2, good s
  l : it.2.length ≤ n
theorem cl_it (b : Nat) (it : It) : (iD it).cl b = true := by
  show ((rD it.1).cl b && (D.cls b (it.2.map sD) && true)) = true
  rw [cl_r, cls_s]; rfl
theorem cls_it (b : Nat) : ∀ its : List It, D.cls b (its.map iD) = true
  | [] => rfl
  | it :: its => by
    show ((iD it).cl b && D.cls b (its.map iD)) = true
    rw [cl_it, cls_it b its]; rfl
theorem cr_it (its : List It) : Cr [.lst (its.map iD)] := fun p => by
  show (D.cl 2 (pD p) && (D.cls 2 (its.map iD) && true)) = true
  rw [cl_p, cls_it]; rfl
abbrev V (x : D) (o3 o4 o5 o12 o13 o14 o15 o16 : Option D) : Sl := [some x, some (.box 0), some (.box 1), o3, o4, o5, none, none, none, none, none, none, o12, o13, o14, o15, o16, none]
def m_t1 (CA : Ly) : MS := (mSeq (mAsg (mF (r__law_stretches CA) (aCons (mVar 1) (aCons (mC (.int 6)) aNil))) (gN 12))
   (mSeq (mAsg (mF (r__law_made CA) (aCons (mVar 1) (aCons (mVar 12) aNil))) (gN 13))
   (mSeq (mIfS (mOr (mNot (mTest (mF (r__law_is_right CA) (aCons (mVar 13) (aCons (mVar 12) aNil))))) (mNot (mTest (mF (r__law_alike CA) (aCons (mVar 13) (aCons (mF (r__law_made CA) (aCons (mVar 1) (aCons (mVar 12) aNil))) (aCons (mC (.bl true)) aNil))))))) (mRet (mC (.bl false))) mSkip)
   (mSeq (mFor (iSeq (mLst (aCons (mC .non) (aCons (mUn (fldD "parts" [0]) (mVar 13)) (aCons (mVar 12) (aCons (mC (.int 0)) (aCons (mC (.str "")) (aCons (mC (.bl true)) aNil)))))))) (gN 14) (mIfS (mNot (mTest (mF (r__law_alike CA) (aCons (mVar 13) (aCons (mVar 14) (aCons (mC (.bl false)) aNil)))))) (mRet (mC (.bl false))) mSkip))
   (mExpr (mBm appD (mVar 2) (aCons (mTup (aCons (mVar 13) (aCons (mVar 12) aNil))) aNil)))))))
def m_q1 (CA : Ly) : MS := (mForB 99 (mVar 2) (gTup [(gN 4), (gN 5)]) (mForB 99 (mVar 2) (gTup [(gN 15), (gN 16)]) (mIfS (mNot (mTest (mF (r__law_alike CA) (aCons (mVar 4) (aCons (mVar 15) (aCons (mF (r__law_same CA) (aCons (mVar 5) (aCons (mVar 16) aNil))) aNil)))))) (mRet (mC (.bl false))) mSkip)))
def m_r1 (CA : Ly) : MS := (mSeq (mAsg (mBin subI (mBin powI (mC (.int 10)) (mC (.int 12))) (mC (.int 1))) (gN 6))
  (mSeq (mAsg (eOr CA (eOr CA (mCM (CA 0) (r_Ranges_between CA) (mC (.adr (CA 0))) (aCons (mBin subI (mVar 6) (mC (.int 2))) (aCons (mVar 6) aNil))) (mCM (CA 0) (r_Ranges_of CA) (mC (.adr (CA 0))) (aCons (mBin subI (mVar 6) (mC (.int 3))) (aCons (mBin subI (mC (.int 0)) (mVar 6)) aNil)))) (mCM (CA 0) (r_Ranges_between CA) (mC (.adr (CA 0))) (aCons (mBin subI (mC (.int 1)) (mVar 6)) (aCons (mBin subI (mC (.int 2)) (mVar 6)) aNil)))) (gN 7))
  (mSeq (mIfS (mNot (mTest (mF (r__law_is_right CA) (aCons (mVar 7) (aCons (mLst (aCons (mTup (aCons (mBin subI (mC (.int 0)) (mVar 6)) (aCons (mBin subI (mC (.int 2)) (mVar 6)) aNil))) (aCons (mTup (aCons (mBin subI (mVar 6) (mC (.int 3))) (aCons (mVar 6) aNil))) aNil))) aNil))))) (mRet (mC (.bl false))) mSkip)
  (mSeq (mIfS (mOr (mTest (mBin (fun x y bx => noX (inC 0 (r_Ranges___contains__ CA) negO x y bx)) (mBin powI (mC (.int 10)) (mC (.int 59))) (mCM (CA 0) (r_Ranges_full CA) (mC (.adr (CA 0))) aNil))) (mOr (mTest (mBin (fun x y bx => noX (inC 0 (r_Ranges___contains__ CA) posO x y bx)) (mBin powI (mC (.int 10)) (mC (.int 59))) (mCM (CA 0) (r_Ranges_between CA) (mC (.adr (CA 0))) (aCons (mC .non) (aCons (mVar 6) aNil))))) (mTest (mBin (fun x y bx => noX (inC 0 (r_Ranges___contains__ CA) posO x y bx)) (mBin subI (mC (.int 0)) (mBin powI (mC (.int 10)) (mC (.int 59)))) (mVar 7))))) (mRet (mC (.bl false))) mSkip)
  (mSeq (mAsg (mComp (iRng1M (mC (.int 4))) (([("turn", 3)] : List (PySem.Str × Nat)).map (·.2)) (gN 3) mYes (mF (r__law_end CA) (aCons (mVar 1) aNil))) (gN 8))
  (mSeq (mAsg (mCM (CA 0) (r_Ranges_of CA) (mC (.adr (CA 0))) (aCons (mBin ixD (mVar 8) (mC (.int 0))) (aCons (mBin ixD (mVar 8) (mC (.int 1))) (aCons (mBin ixD (mVar 8) (mC (.int 0))) (aCons (mBin ixD (mVar 8) (mC (.int 2))) (aCons (mBin ixD (mVar 8) (mC (.int 3))) aNil)))))) (gN 9))
  (mSeq (mIfS (mOr (mNot (mTest (mF (r__law_is_right CA) (aCons (mVar 9) (aCons (mComp (iSeq (mVar 8)) (([("number", 17)] : List (PySem.Str × Nat)).map (·.2)) (gN 17) mYes (mTup (aCons (mVar 17) (aCons (mVar 17) aNil)))) aNil))))) (mNot (mTest (mF (r__law_is_right CA) (aCons (mCM (CA 0) (r_Ranges_of CA) (mC (.adr (CA 0))) aNil) (aCons (mLst aNil) aNil)))))) (mRet (mC (.bl false))) mSkip)
  (mSeq (mPar2 10 11 (aCons (mCB (un2 max2) (aCons (mBin ixD (mVar 8) (mC (.int 0))) (aCons (mBin ixD (mVar 8) (mC (.int 1))) aNil))) (aCons (mCB (un2 min2) (aCons (mBin ixD (mVar 8) (mC (.int 0))) (aCons (mBin ixD (mVar 8) (mC (.int 1))) aNil))) aNil)))
  (mSeq (mIfS (mNot (mTest (mF (r__law_is_right CA) (aCons (mCM (CA 0) (r_Ranges_between CA) (mC (.adr (CA 0))) (aCons (mVar 10) (aCons (mVar 11) aNil))) (aCons (mIf (mTest (mBin eqD (mVar 10) (mVar 11))) (mLst (aCons (mTup (aCons (mVar 10) (aCons (mVar 11) aNil))) aNil)) (mLst aNil)) aNil))))) (mRet (mC (.bl false))) mSkip)
  (mSeq (mIfS (mOr (mNot (mTest (mF (r__law_is_right CA) (aCons (mCM (CA 0) (r_Ranges_between CA) (mC (.adr (CA 0))) (aCons (mC .non) (aCons (mC .non) aNil))) (aCons (mLst (aCons (mTup (aCons (mC .non) (aCons (mC .non) aNil))) aNil)) aNil))))) (mTest (mBin neD (mUn (fldD "parts" [0]) (mCM (CA 0) (r_Ranges_full CA) (mC (.adr (CA 0))) aNil)) (mTup (aCons (mTup (aCons (mC .non) (aCons (mC .non) aNil))) aNil))))) (mRet (mC (.bl false))) mSkip)
  (mRet (mAndV (mF (r__law_alike CA) (aCons (mCM (CA 0) (r_Ranges_empty CA) (mC (.adr (CA 0))) aNil) (aCons (mCM (CA 0) (r_Ranges_of CA) (mC (.adr (CA 0))) aNil) (aCons (mC (.bl true)) aNil)))) (mBin eqD (mUn (fldD "parts" [0]) (mCM (CA 0) (r_Ranges_empty CA) (mC (.adr (CA 0))) aNil)) (mTup aNil))))))))))))))
theorem m_p1_eq (CA : Ly) : m__law_part_one CA = (mSeq (mBox (mF (r__law_pen CA) (aCons (mVar 0) aNil)) 1) (mSeq (mBox (mLst aNil) 2) (mSeq (mFor (iRng1M (mC (.int 4))) (gN 3) (m_t1 CA)) (mSeq (m_q1 CA) (m_r1 CA))))) := rfl
section
variable {CA : Ly} {p : Pn} {k : Int} {its : List It} {x : D} {o3 o4 o5 o12 o13 o14 o15 o16 : Option D} {rest : List D}
theorem t1_ok (CA : Ly) (hp : PO p k) (hk : k < 900000) (hl : its.length ≤ 100) :
    ∃ (it : It) (p' : Pn) (q12 q13 q14 : Option D), m_t1 CA (V x o3 o4 o5 o12 o13 o14 o15 o16) [pD p, .lst (its.map iD)] = .nx (V x o3 o4 o5 q12 q13 q14 o15 o16) [pD p', .lst ((its ++ [it]).map iD)] ∧ ItOk 6 it ∧ PO p' (k + 300) := by
  have hr := cr_it its
  obtain ⟨st, p1, e1, g1, l1, h1⟩ := Stw_a CA p k 6 [.lst (its.map iD)] hp (by omega) (by omega) hr
  have hv : ∀ s ∈ st, okS s := fun s hs => (g1 s hs).ok
  obtain ⟨F, p2, e2, f2, m2, h2⟩ := made_ok CA (Drw_a CA) h1 (by omega) hr (st := st) (by omega) hv
  obtain ⟨F', p3, e3, f3, m3, h3⟩ := made_ok CA (Drw_a CA) h2 (by omega) hr (st := st) (by omega) hv
  rw [← md_a] at e2 e3
  have hFF : F = F' := (f2.eq_iff f3).mpr fun i => by rw [m2, m3]
  have s1 : mAsg (mF (r__law_stretches CA) (aCons (mVar 1) (aCons (mC (.int 6)) aNil))) (gN 12) (V x o3 o4 o5 o12 o13 o14 o15 o16) [pD p, .lst (its.map iD)] = .nx (V x o3 o4 o5 (some (.lst (st.map sD))) o13 o14 o15 o16) [pD p1, .lst (its.map iD)] :=
    ev_asg (i := 12) (r := .new (.lst (st.map sD))) ((ev_F (ev_cons (r := .val (.box 0)) (b := [pD p, .lst (its.map iD)]) rfl (ev_cons (r := .val (.int 6)) (b := [pD p, .lst (its.map iD)]) rfl ev_nil))).trans e1)
  have s2 : mAsg (mF (r__law_made CA) (aCons (mVar 1) (aCons (mVar 12) aNil))) (gN 13) (V x o3 o4 o5 (some (.lst (st.map sD))) o13 o14 o15 o16) [pD p1, .lst (its.map iD)] = .nx (V x o3 o4 o5 (some (.lst (st.map sD))) (some (rD F)) o14 o15 o16) [pD p2, .lst (its.map iD)] :=
    ev_asg (i := 13) (r := .val (rD F)) ((ev_F (ev_cons (r := .val (.box 0)) (b := [pD p1, .lst (its.map iD)]) rfl (ev_cons (r := .val (.lst (st.map sD))) (b := [pD p1, .lst (its.map iD)]) rfl ev_nil))).trans e2)
  have t1 := ev_test ((ev_F (mf := r__law_is_right CA) (ev_cons (m := mVar 13) (ρ := V x o3 o4 o5 (some (.lst (st.map sD))) (some (rD F)) o14 o15 o16) (bx := [pD p2, .lst (its.map iD)]) (r := .val (rD F)) (b := [pD p2, .lst (its.map iD)]) rfl (ev_cons (m := mVar 12) (r := .val (.lst (st.map sD))) (b := [pD p2, .lst (its.map iD)]) rfl ev_nil))).trans (c_right CA f2 (by omega) (by omega) m2 hv))
  have em : mF (r__law_made CA) (aCons (mVar 1) (aCons (mVar 12) aNil)) (V x o3 o4 o5 (some (.lst (st.map sD))) (some (rD F)) o14 o15 o16) [pD p2, .lst (its.map iD)] = .ok (.val (rD F')) [pD p3, .lst (its.map iD)] :=
    (ev_F (ev_cons (r := .val (.box 0)) (b := [pD p2, .lst (its.map iD)]) rfl (ev_cons (r := .val (.lst (st.map sD))) (b := [pD p2, .lst (its.map iD)]) rfl ev_nil))).trans e3
  have ea := alike_r CA (bx := [pD p3, .lst (its.map iD)]) F F' true
  rw [show (decide (F = F') == true) = true by rw [hFF]; simp] at ea
  have t2 := ev_test ((ev_F (mf := r__law_alike CA) (ev_cons (m := mVar 13) (r := .val (rD F)) (b := [pD p2, .lst (its.map iD)]) rfl (ev_cons em (ev_cons (m := mC (.bl true)) (r := .val (.bl true)) (b := [pD p3, .lst (its.map iD)]) rfl ev_nil)))).trans ea)
  obtain ⟨ρ4, e4, q14, rfl⟩ := loop_all (g := gN 14) (m := mIfS (mNot (mTest (mF (r__law_alike CA) (aCons (mVar 13) (aCons (mVar 14) (aCons (mC (.bl false)) aNil)))))) (mRet (mC (.bl false))) mSkip) (bx := [pD p3, .lst (its.map iD)]) (fun ρ => ∃ q14, ρ = V x o3 o4 o5 (some (.lst (st.map sD))) (some (rD F)) q14 o15 o16) [.non, .tup (F.map sD), .lst (st.map sD), .int 0, .str "", .bl true] (fun d hd ρ hs => by
    obtain ⟨q14, rfl⟩ := hs
    refine ⟨V x o3 o4 o5 (some (.lst (st.map sD))) (some (rD F)) (some d) o15 o16, V x o3 o4 o5 (some (.lst (st.map sD))) (some (rD F)) (some d) o15 o16, rfl, ?_, _, rfl⟩
    have key : ∃ t, d.tc [pD p3, .lst (its.map iD)] = some t ∧ t ∈ [0, 1, 2, 3, 4, 5] ∧ d.obj [pD p3, .lst (its.map iD)] = none := by
      simp only [List.mem_cons, List.not_mem_nil, or_false] at hd
      rcases hd with rfl | rfl | rfl | rfl | rfl | rfl
      · exact ⟨0, rfl, by decide, rfl⟩
      · exact ⟨4, rfl, by decide, rfl⟩
      · exact ⟨5, rfl, by decide, rfl⟩
      · exact ⟨2, rfl, by decide, rfl⟩
      · exact ⟨3, rfl, by decide, rfl⟩
      · exact ⟨1, rfl, by decide, rfl⟩
    obtain ⟨t, k1, k2, k3⟩ := key
    exact ev_no (ev_not (ev_test ((ev_F (ev_cons (r := .val (rD F)) (b := [pD p3, .lst (its.map iD)]) rfl (ev_cons (r := .val d) (b := [pD p3, .lst (its.map iD)]) rfl (ev_cons (r := .val (.bl false)) (b := [pD p3, .lst (its.map iD)]) rfl ev_nil)))).trans (alike_odd CA F k1 k2 k3))))) (V x o3 o4 o5 (some (.lst (st.map sD))) (some (rD F)) o14 o15 o16) ⟨o14, rfl⟩
  have e4' : iSeq (mLst (aCons (mC .non) (aCons (mUn (fldD "parts" [0]) (mVar 13)) (aCons (mVar 12) (aCons (mC (.int 0)) (aCons (mC (.str "")) (aCons (mC (.bl true)) aNil))))))) (V x o3 o4 o5 (some (.lst (st.map sD))) (some (rD F)) o14 o15 o16) [pD p3, .lst (its.map iD)] = .ok [.non, .tup (F.map sD), .lst (st.map sD), .int 0, .str "", .bl true] [pD p3, .lst (its.map iD)] := by
    refine ev_iseq (r := .new (.lst [.non, .tup (F.map sD), .lst (st.map sD), .int 0, .str "", .bl true])) ?_ rfl
    unfold mLst
    rw [ev_cons (r := .val .non) (b := [pD p3, .lst (its.map iD)]) rfl (ev_cons (fld_v (a := F) rfl) (ev_cons (r := .val (.lst (st.map sD))) (b := [pD p3, .lst (its.map iD)]) rfl (ev_cons (r := .val (.int 0)) (b := [pD p3, .lst (its.map iD)]) rfl (ev_cons (r := .val (.str "")) (b := [pD p3, .lst (its.map iD)]) rfl (ev_cons (r := .val (.bl true)) (b := [pD p3, .lst (its.map iD)]) rfl ev_nil)))))]
    rfl
  refine ⟨(F, st), p3, some (.lst (st.map sD)), some (rD F), q14, ?_, ⟨f2.mono (by omega), m2, g1, l1⟩, h3.mono (by omega)⟩
  have s5 : mExpr (mBm appD (mVar 2) (aCons (mTup (aCons (mVar 13) (aCons (mVar 12) aNil))) aNil)) (V x o3 o4 o5 (some (.lst (st.map sD))) (some (rD F)) q14 o15 o16) [pD p3, .lst (its.map iD)] = .nx (V x o3 o4 o5 (some (.lst (st.map sD))) (some (rD F)) q14 o15 o16) [pD p3, .lst ((its ++ [(F, st)]).map iD)] := by
    rw [ev_app (n := 1) (xs := its.map iD) (d := iD (F, st)) (b := [pD p3, .lst (its.map iD)]) rfl rfl rfl rfl (by simp; unfold sizeLine; omega)]
    simp
  unfold m_t1
  rw [ev_seq s1, ev_seq s2, ev_seq (ev_no ((ev_orF (ev_not t1)).trans (ev_not t2))), ev_seq ((ev_for e4').trans e4), s5]
theorem t1_loop (CA : Ly) : ∀ (ds : List D) (its : List It) (p : Pn) (k : Int) (o3 o12 o13 o14 : Option D), PO p k → k + 300 * ds.length < 900000 → (∀ it ∈ its, ItOk 6 it) → its.length + ds.length ≤ 50 →
    ∃ (its' : List It) (p' : Pn) (q3 q12 q13 q14 : Option D), loop (gN 3) (m_t1 CA) ds (V x o3 o4 o5 o12 o13 o14 o15 o16) [pD p, .lst (its.map iD)] = .nx (V x q3 o4 o5 q12 q13 q14 o15 o16) [pD p', .lst (its'.map iD)] ∧ (∀ it ∈ its', ItOk 6 it) ∧ its'.length = its.length + ds.length ∧ PO p' (k + 300 * ds.length)
  | [], its, p, k, o3, o12, o13, o14, hp, _, hi, _ => ⟨its, p, o3, o12, o13, o14, rfl, hi, rfl, by simpa using hp⟩
  | d :: ds, its, p, k, o3, o12, o13, o14, hp, hk, hi, hl => by
    rw [List.length_cons] at hk hl
    obtain ⟨it, p1, q12, q13, q14, e1, g1, h1⟩ := t1_ok (x := x) (o3 := some d) (o4 := o4) (o5 := o5) (o12 := o12) (o13 := o13) (o14 := o14) (o15 := o15) (o16 := o16) (its := its) CA hp (by omega) (by omega)
    obtain ⟨its', p2, z3, z12, z13, z14, e2, g2, l2, h2⟩ := t1_loop CA ds (its ++ [it]) p1 (k + 300) (some d) q12 q13 q14 h1 (by omega) (fun y hy => (List.mem_append.mp hy).elim (hi y) fun z => by rw [List.mem_singleton.mp z]; exact g1) (by rw [List.length_append, List.length_singleton]; omega)
    refine ⟨its', p2, z3, z12, z13, z14, ?_, g2, by rw [l2, List.length_append, List.length_singleton, List.length_cons]; omega, h2.mono (by rw [List.length_cons]; omega)⟩
    rw [loop_nx (ρ1 := V x (some d) o4 o5 o12 o13 o14 o15 o16) rfl e1]
    exact e2
theorem q1_ok (CA : Ly) (hi : ∀ it ∈ its, ItOk 6 it) (hl : its.length ≤ 50) : ∃ q4 q5 q15 q16, m_q1 CA (V x o3 o4 o5 o12 o13 o14 o15 o16) [pD p, .lst (its.map iD)] = .nx (V x o3 q4 q5 o12 o13 o14 q15 q16) [pD p, .lst (its.map iD)] := by
  have inner : ∀ it ∈ its, ∀ o15 o16, ∃ q15 q16, mForB 99 (mVar 2) (gTup [(gN 15), (gN 16)]) (mIfS (mNot (mTest (mF (r__law_alike CA) (aCons (mVar 4) (aCons (mVar 15) (aCons (mF (r__law_same CA) (aCons (mVar 5) (aCons (mVar 16) aNil))) aNil)))))) (mRet (mC (.bl false))) mSkip) (V x o3 (some (rD it.1)) (some (.lst (it.2.map sD))) o12 o13 o14 o15 o16) [pD p, .lst (its.map iD)] = .nx (V x o3 (some (rD it.1)) (some (.lst (it.2.map sD))) o12 o13 o14 q15 q16) [pD p, .lst (its.map iD)] := fun it hit o15 o16 => by
    have h1 := hi it hit
    obtain ⟨ρ2, e, q15, q16, rfl⟩ := loopB_go (n := 1) (xs := its.map iD) (g := gTup [(gN 15), (gN 16)]) (m := mIfS (mNot (mTest (mF (r__law_alike CA) (aCons (mVar 4) (aCons (mVar 15) (aCons (mF (r__law_same CA) (aCons (mVar 5) (aCons (mVar 16) aNil))) aNil)))))) (mRet (mC (.bl false))) mSkip) (bx := [pD p, .lst (its.map iD)]) (fun ρ => ∃ q15 q16, ρ = V x o3 (some (rD it.1)) (some (.lst (it.2.map sD))) o12 o13 o14 q15 q16) rfl (fun d hd ρ hs => by
      obtain ⟨q15, q16, rfl⟩ := hs
      obtain ⟨jt, hj, rfl⟩ := List.mem_map.mp hd
      have h2 := hi jt hj
      refine ⟨V x o3 (some (rD it.1)) (some (.lst (it.2.map sD))) o12 o13 o14 (some (rD jt.1)) (some (.lst (jt.2.map sD))), V x o3 (some (rD it.1)) (some (.lst (it.2.map sD))) o12 o13 o14 (some (rD jt.1)) (some (.lst (jt.2.map sD))), rfl, ?_, _, _, rfl⟩
      have e1 : mF (r__law_same CA) (aCons (mVar 5) (aCons (mVar 16) aNil)) (V x o3 (some (rD it.1)) (some (.lst (it.2.map sD))) o12 o13 o14 (some (rD jt.1)) (some (.lst (jt.2.map sD)))) [pD p, .lst (its.map iD)] = OK (.bl ((points (it.2 ++ jt.2)).all fun n => hasB it.2 n == hasB jt.2 n)) [pD p, .lst (its.map iD)] :=
        (ev_F (ev_cons (r := .val (.lst (it.2.map sD))) (b := [pD p, .lst (its.map iD)]) rfl (ev_cons (r := .val (.lst (jt.2.map sD))) (b := [pD p, .lst (its.map iD)]) rfl ev_nil))).trans (c_same CA (by have := h1.l; have := h2.l; omega))
      have e2 := alike_r CA (bx := [pD p, .lst (its.map iD)]) it.1 jt.1 ((points (it.2 ++ jt.2)).all fun n => hasB it.2 n == hasB jt.2 n)
      have e3 : (decide (it.1 = jt.1) == ((points (it.2 ++ jt.2)).all fun n => hasB it.2 n == hasB jt.2 n)) = true := by
        rw [beq_iff_eq]
        apply Bool.eq_iff_iff.mpr
        rw [decide_eq_true_iff, h1.s.eq_iff h2.s, same_iff (fun s hs => (List.mem_append.mp hs).elim (fun z => (h1.g s z).low) fun z => (h2.g s z).low)]
        exact ⟨fun h k => by rw [← h1.m, ← h2.m, h], fun h k => by rw [h1.m, h2.m, h]⟩
      rw [e3] at e2
      exact ev_no (ev_not (ev_test ((ev_F (ev_cons (r := .val (rD it.1)) (b := [pD p, .lst (its.map iD)]) rfl (ev_cons (r := .val (rD jt.1)) (b := [pD p, .lst (its.map iD)]) rfl (ev_cons e1 ev_nil)))).trans e2)))) 99 0 (V x o3 (some (rD it.1)) (some (.lst (it.2.map sD))) o12 o13 o14 o15 o16) (by rw [List.length_map]; omega) (by omega) ⟨o15, o16, rfl⟩
    exact ⟨q15, q16, (ev_forB rfl).trans e⟩
  obtain ⟨ρ2, e, q4, q5, q15, q16, rfl⟩ := loopB_go (n := 1) (xs := its.map iD) (g := gTup [(gN 4), (gN 5)]) (m := mForB 99 (mVar 2) (gTup [(gN 15), (gN 16)]) (mIfS (mNot (mTest (mF (r__law_alike CA) (aCons (mVar 4) (aCons (mVar 15) (aCons (mF (r__law_same CA) (aCons (mVar 5) (aCons (mVar 16) aNil))) aNil)))))) (mRet (mC (.bl false))) mSkip)) (bx := [pD p, .lst (its.map iD)]) (fun ρ => ∃ q4 q5 q15 q16, ρ = V x o3 q4 q5 o12 o13 o14 q15 q16) rfl (fun d hd ρ hs => by
    obtain ⟨q4, q5, q15, q16, rfl⟩ := hs
    obtain ⟨it, hit, rfl⟩ := List.mem_map.mp hd
    obtain ⟨z15, z16, e⟩ := inner it hit q15 q16
    exact ⟨V x o3 (some (rD it.1)) (some (.lst (it.2.map sD))) o12 o13 o14 q15 q16, _, rfl, e, _, _, _, _, rfl⟩) 99 0 (V x o3 o4 o5 o12 o13 o14 o15 o16) (by rw [List.length_map]; omega) (by omega) ⟨o4, o5, o15, o16, rfl⟩
  exact ⟨q4, q5, q15, q16, (ev_forB rfl).trans e⟩
theorem ends_loop (CA : Ly) {ρ : Sl} (hρ : ∀ d, (ρ.set 3 (some d))[1]? = some (some (.box 0))) : ∀ (ds : List D) (acc : List Int) (p : Pn) (k : Int), PO p k → k + 3 * ds.length < 999000 → acc.length + ds.length ≤ 1000 →
    ∃ (ns : List Int) (p' : Pn), compL (gN 3) mYes (mF (r__law_end CA) (aCons (mVar 1) aNil)) ds ρ (pD p :: rest) (acc.map .int) = .ok ((acc ++ ns).map .int) (pD p' :: rest) ∧ ns.length = ds.length ∧ PO p' (k + 3 * ds.length)
  | [], acc, p, k, hp, _, _ => ⟨[], p, by simp [compL], rfl, by simpa using hp⟩
  | d :: ds, acc, p, k, hp, hk, hl => by
    rw [List.length_cons] at hk hl
    obtain ⟨r, p1, e1, _, _, h1⟩ := Enw_a CA p k rest hp (by omega)
    obtain ⟨ns, p2, e2, l2, h2⟩ := ends_loop CA hρ ds (acc ++ [r]) p1 (k + 3) h1 (by omega) (by rw [List.length_append, List.length_singleton]; omega)
    refine ⟨r :: ns, p2, ?_, by rw [List.length_cons, List.length_cons, l2], h2.mono (by rw [List.length_cons]; omega)⟩
    have e3 : mF (r__law_end CA) (aCons (mVar 1) aNil) (ρ.set 3 (some d)) (pD p :: rest) = .ok (.val (.int r)) (pD p1 :: rest) := (ev_F (ev_cons (ev_var (hρ d)) ev_nil)).trans e1
    unfold compL
    simp only [gN, mYes, noX, Out.bind_ok, if_true, e3]
    rw [if_pos (by rw [List.length_map]; unfold sizeLine; omega)]
    have e4 : (acc.map D.int ++ [D.int r]) = (acc ++ [r]).map .int := by simp
    show compL (gN 3) mYes (mF (r__law_end CA) (aCons (mVar 1) aNil)) ds ρ (pD p1 :: rest) (acc.map D.int ++ [D.int r]) = _
    rw [e4, e2]
    simp
theorem r1_ok (CA : Ly) (hp : PO p k) (hk : k < 900000) (hr : Cr rest) : Done (m_r1 CA (V x o3 o4 o5 o12 o13 o14 o15 o16) (pD p :: rest)) := by
  have hb := hr p
  unfold m_r1
  refine done_asg (r := .val (.int 999999999999)) (b' := pD p :: rest) (ev_subI (i := 1000000000000) (j := 1) (b := pD p :: rest) (ev_pow (a := 10) (b := 12) (by decide)) rfl) ?_
  refine done_set (sv_or hb (sv_or hb (sv_between (l := some (999999999999 - 2)) (h := some 999999999999) hb rfl rfl) (sv_of (ns := [999999999999 - 3, 0 - 999999999999]) hb rfl (by decide)) (by decide)) (sv_between (l := some (1 - 999999999999)) (h := some (2 - 999999999999)) hb rfl rfl) (by decide)) fun e he hme => ?_
  refine done_no (ev_not (sv_right (st := [(some (0 - 999999999999), some (2 - 999999999999)), (some (999999999999 - 3), some 999999999999)]) (r := .new (.lst [sD (some (0 - 999999999999), some (2 - 999999999999)), sD (some (999999999999 - 3), some 999999999999)])) (sv_var (a := e) rfl he) (by decide) rfl rfl (by decide) (fun i => ?_) (fun s hs => ?_))) ?_
  · rw [hme, mem_cons, mem_one]
    simp [inS]
    omega
  · simp only [List.mem_cons, List.not_mem_nil, or_false] at hs
    rcases hs with rfl | rfl <;> (intro l h e1 e2; cases e1; cases e2; decide)
  obtain ⟨k1, t1, i1⟩ := sv_ni (CA := CA) (m := mBin powI (mC (.int 10)) (mC (.int 59))) (ρ := ((V x o3 o4 o5 o12 o13 o14 o15 o16).set 6 (some (R.val (.int 999999999999)).d)).set 7 (some (rD e))) (bx := pD p :: rest) (ev_pow (a := 10) (b := 59) (by decide)) (sv_full (CA := CA) hb) (by decide)
  obtain ⟨k2, t2, i2⟩ := sv_in (CA := CA) (m := mBin powI (mC (.int 10)) (mC (.int 59))) (ρ := ((V x o3 o4 o5 o12 o13 o14 o15 o16).set 6 (some (R.val (.int 999999999999)).d)).set 7 (some (rD e))) (bx := pD p :: rest) (ev_pow (a := 10) (b := 59) (by decide)) (sv_between (CA := CA) (l := none) (h := some 999999999999) (ma := mC .non) (mb := mVar 6) hb rfl rfl) (by decide)
  obtain ⟨k3, t3, i3⟩ := sv_in (CA := CA) (m := mBin subI (mC (.int 0)) (mBin powI (mC (.int 10)) (mC (.int 59)))) (ρ := ((V x o3 o4 o5 o12 o13 o14 o15 o16).set 6 (some (R.val (.int 999999999999)).d)).set 7 (some (rD e))) (bx := pD p :: rest) (e := mVar 7) (ev_subI (i := 0) (b := pD p :: rest) rfl (ev_pow (a := 10) (b := 59) (by decide))) (sv_var (a := e) rfl he) (by decide)
  rw [i1.mpr trivial] at t1
  rw [false_of i2 (fun h => absurd (h.2 _ rfl) (by decide))] at t2
  rw [false_of i3 (fun h => by
    rw [hme] at h
    rcases h with (h | h) | h
    · exact absurd (h.1 _ rfl) (by decide)
    · revert h; decide
    · exact absurd (h.1 _ rfl) (by decide))] at t3
  refine done_no ((ev_orF t1).trans ((ev_orF t2).trans t3)) ?_
  obtain ⟨ns, p1, e8, l8, h8⟩ := ends_loop (rest := rest) CA (ρ := wipeD (((V x o3 o4 o5 o12 o13 o14 o15 o16).set 6 (some (R.val (.int 999999999999)).d)).set 7 (some (rD e))) [3]) (fun d => rfl) (rng 0 4) [] p k hp (by rw [rng_len]; omega) (by rw [rng_len]; decide)
  refine done_asg (r := .new (.lst (ns.map .int))) (b' := pD p1 :: rest) ?_ ?_
  · unfold mComp
    rw [ev_rng (by decide)]
    show (compL _ _ _ (rng 0 4) (wipeD (((V x o3 o4 o5 o12 o13 o14 o15 o16).set 6 (some (R.val (.int 999999999999)).d)).set 7 (some (rD e))) [3]) (pD p :: rest) (([] : List Int).map .int)).bind _ = _
    rw [e8]
    rfl
  have hb1 := hr p1
  rw [rng_len] at l8
  obtain ⟨n0, n1, n2, n3, rfl⟩ : ∃ n0 n1 n2 n3, ns = [n0, n1, n2, n3] := by
    match ns, l8 with
    | [n0, n1, n2, n3], _ => exact ⟨n0, n1, n2, n3, rfl⟩
  refine done_set (sv_of (ns := [n0, n1, n0, n2, n3]) hb1 rfl (by simp)) fun c hc hmc => ?_
  refine done_no ((ev_orF (ev_not (sv_right (st := [(some n0, some n0), (some n1, some n1), (some n2, some n2), (some n3, some n3)]) (r := .new (.lst [sD (some n0, some n0), sD (some n1, some n1), sD (some n2, some n2), sD (some n3, some n3)])) (sv_var (a := c) rfl hc) (by decide) rfl rfl (by simp) (fun i => ?_) (fun s hs => ?_)))).trans (ev_not (sv_right (st := []) (r := .new (.lst [])) (sv_of (ns := []) hb1 rfl (by decide)) (by decide) rfl rfl (by decide) (fun i => ?_) (fun s hs => ?_)))) ?_
  · rw [hmc, mem_cons, mem_cons, mem_cons, mem_one]
    simp [inS]
    omega
  · simp only [List.mem_cons, List.not_mem_nil, or_false] at hs
    rcases hs with rfl | rfl | rfl | rfl <;> (intro l h e1 e2; cases e1; cases e2; exact Int.le_refl _)
  · exact ⟨fun h => by simp at h, fun h => (mem_nil i h).elim⟩
  · simp at hs
  refine done_par2 (u := .int (if n1 > n0 then n1 else n0)) (v := .int (if n1 < n0 then n1 else n0)) (b' := pD p1 :: rest) rfl ?_
  have hLH : ∃ L H : Int, L = (if n1 > n0 then n1 else n0) ∧ H = (if n1 < n0 then n1 else n0) ∧ H ≤ L := ⟨_, _, rfl, rfl, by split <;> split <;> omega⟩
  obtain ⟨L, H, hL, hH, hle⟩ := hLH
  rw [← hL, ← hH]
  have right3 : ∃ (st : List Stretch), mIf (mTest (mBin eqD (mVar 10) (mVar 11))) (mLst (aCons (mTup (aCons (mVar 10) (aCons (mVar 11) aNil))) aNil)) (mLst aNil) ((((((((V x o3 o4 o5 o12 o13 o14 o15 o16).set 6 (some (R.val (.int 999999999999)).d)).set 7 (some (rD e))).set 8 (some (R.new (.lst ([n0, n1, n2, n3].map .int))).d)).set 9 (some (rD c))).set 10 (some (.int L))).set 11 (some (.int H)))) (pD p1 :: rest) = .ok (.new (.lst (st.map sD))) (pD p1 :: rest) ∧ (∀ i, inS (some L, some H) i ↔ mem st i) ∧ (∀ s ∈ st, okS s) ∧ st.length ≤ 1 := by
    have tt : mTest (mBin eqD (mVar 10) (mVar 11)) ((((((((V x o3 o4 o5 o12 o13 o14 o15 o16).set 6 (some (R.val (.int 999999999999)).d)).set 7 (some (rD e))).set 8 (some (R.new (.lst ([n0, n1, n2, n3].map .int))).d)).set 9 (some (rD c))).set 10 (some (.int L))).set 11 (some (.int H)))) (pD p1 :: rest) = .ok (L == H) (pD p1 :: rest) := rfl
    by_cases q : L = H
    · rw [show (L == H) = true by rw [q]; simp] at tt
      exact ⟨[(some L, some H)], (ev_mifT tt).trans rfl, fun i => (mem_one _ _).symm, fun s hs => by rw [List.mem_singleton.mp hs]; intro l h e1 e2; cases e1; cases e2; omega, by simp⟩
    · rw [show (L == H) = false from beq_eq_false_iff_ne.mpr q] at tt
      refine ⟨[], (ev_mifF tt).trans rfl, fun i => ⟨fun h => ?_, fun h => (mem_nil i h).elim⟩, by simp, by simp⟩
      have h1 := h.1 L rfl
      have h2 := h.2 H rfl
      omega
  obtain ⟨st3, e3, m3, v3, l3⟩ := right3
  refine done_no (ev_not (sv_right (sv_between (l := some L) (h := some H) hb1 rfl rfl) (by decide) e3 rfl (by omega) m3 v3)) ?_
  have full1 : mTest (mBin neD (mUn (fldD "parts" [0]) (mCM (CA 0) (r_Ranges_full CA) (mC (.adr (CA 0))) aNil)) (mTup (aCons (mTup (aCons (mC .non) (aCons (mC .non) aNil))) aNil))) ((((((((V x o3 o4 o5 o12 o13 o14 o15 o16).set 6 (some (R.val (.int 999999999999)).d)).set 7 (some (rD e))).set 8 (some (R.new (.lst ([n0, n1, n2, n3].map .int))).d)).set 9 (some (rD c))).set 10 (some (.int L))).set 11 (some (.int H)))) (pD p1 :: rest) = .ok false (pD p1 :: rest) := by
    refine ev_test ((ev_bin (ev_un ((ev_CM ev_nil).trans (o_full CA hb1)) |>.trans (fld_r _ _)) (r' := .val (.tup ([((none, none) : Stretch)].map sD))) (b' := pD p1 :: rest) rfl).trans ?_)
    exact (ne_t [(none, none)] [(none, none)] _).trans (by simp)
  refine done_no ((ev_orF (ev_not (sv_right (st := [(none, none)]) (r := .new (.lst [sD (none, none)])) (sv_between (l := none) (h := none) hb1 rfl rfl) (by decide) rfl rfl (by decide) (fun i => (mem_one _ _).symm) (fun s hs => by rw [List.mem_singleton.mp hs]; intro l h e1 e2; cases e1)))).trans full1) ?_
  obtain ⟨c0, ec, sc, mc⟩ := o_of CA (bx := pD p1 :: rest) [] (n := 1) (by simp) (by decide) hb1
  have hc0 : c0 = [] := by
    cases c0 with
    | nil => rfl
    | cons s c0 => exact absurd ((mc _).mp ((mem_cons s c0 (aNum s)).mpr (.inl (aNum_in s (sc.c.ok s (List.mem_cons_self ..)))))) (by simp)
  refine ⟨pD p1 :: rest, ev_ret ?_⟩
  have f1 := (ev_F (mf := r__law_alike CA) (ev_cons ((ev_CM (ρ := ((((((((V x o3 o4 o5 o12 o13 o14 o15 o16).set 6 (some (R.val (.int 999999999999)).d)).set 7 (some (rD e))).set 8 (some (R.new (.lst ([n0, n1, n2, n3].map .int))).d)).set 9 (some (rD c))).set 10 (some (.int L))).set 11 (some (.int H))))) (bx := pD p1 :: rest) ev_nil).trans (o_empty CA hb1)) (ev_cons ((ev_CM ev_nil).trans ec) (ev_cons (m := mC (.bl true)) (r := .val (.bl true)) (b := pD p1 :: rest) rfl ev_nil)))).trans (alike_r CA [] c0 true)
  rw [show (decide (([] : List Stretch) = c0) == true) = true by rw [hc0]; simp] at f1
  refine (ev_andVT f1).trans ?_
  refine (ev_bin (ev_un ((ev_CM ev_nil).trans (o_empty CA hb1)) |>.trans (fld_r _ _)) (r' := .val (.tup (([] : List Stretch).map sD))) (b' := pD p1 :: rest) rfl).trans ?_
  exact (eq_t [] [] _).trans (by simp)
theorem c_pen (CA : Ly) (ns : List Int) (hn : ns.length ≤ 63) (bx : List D) : ∃ p : Pn, r__law_pen CA [.rol (ns.map .int)] bx = .ok (.new (pD p)) bx ∧ PO p 0 := by
  refine ⟨⟨(ns.drop (HT.sIx ns.length 0 none)).take (HT.sIx ns.length ns.length (some 63) - HT.sIx ns.length 0 none), 0, 0⟩, ?_, ⟨Int.le_refl _, Int.le_refl _, ?_⟩⟩
  · refine (ar_ok rfl).trans (body_rt (b := bx) ?_ rfl)
    show m__law_pen CA [some (.rol (ns.map .int))] bx = _
    unfold m__law_pen
    refine ev_ret ?_
    have e1 : mCB (un1 listD) (aCons (mSlice (mVar 0) pNone (pSome (mC (.int 63)))) aNil) [some (.rol (ns.map .int))] bx = .ok (.new (.lst (((ns.drop (HT.sIx ns.length 0 none)).take (HT.sIx ns.length ns.length (some 63) - HT.sIx ns.length 0 none)).map .int))) bx := by
      have e2 : mSlice (mVar 0) pNone (pSome (mC (.int 63))) [some (.rol (ns.map .int))] bx = .ok (.new (.lst (cutD (ns.map .int) none (some 63)))) bx := rfl
      rw [ev_CB (ev_cons e2 ev_nil)]
      show Out.ok (R.new (.lst (cutD (ns.map D.int) none (some 63)))) bx = _
      unfold cutD
      rw [List.length_map, List.map_take, List.map_drop]
    unfold mLst
    rw [ev_cons e1 (ev_cons (r := .val (.int 0)) (b := bx) rfl (ev_cons (r := .val (.int 0)) (b := bx) rfl ev_nil))]
    rfl
  · show ((ns.drop _).take _).length ≤ 63
    rw [List.length_take, List.length_drop]
    omega
theorem c_part_one (CA : Ly) (ns : List Int) (hn : ns.length ≤ 63) : r__law_part_one CA [.rol (ns.map .int)] [] = .ok (.val (.bl true)) [] := by
  obtain ⟨p, e1, h1⟩ := c_pen CA ns hn []
  have a1 : mBox (mF (r__law_pen CA) (aCons (mVar 0) aNil)) 1 [some (.rol (ns.map .int)), none, none, none, none, none, none, none, none, none, none, none, none, none, none, none, none, none] [] = .nx [some (.rol (ns.map .int)), some (.box 0), none, none, none, none, none, none, none, none, none, none, none, none, none, none, none, none] [pD p] :=
    ev_box (i := 1) (d := pD p) (b := []) ((ev_F (ev_cons (r := .val (.rol (ns.map .int))) (b := []) rfl ev_nil)).trans e1)
  have a2 : mBox (mLst aNil) 2 [some (.rol (ns.map .int)), some (.box 0), none, none, none, none, none, none, none, none, none, none, none, none, none, none, none, none] [pD p] = .nx (V (.rol (ns.map .int)) none none none none none none none none) [pD p, .lst (([] : List It).map iD)] := ev_box (m := mLst aNil) (i := 2) (d := .lst []) (b := [pD p]) rfl
  have hlen : (rng 0 ((4 : Int).toNat)).length = 4 := rng_len
  obtain ⟨its, p1, q3, q12, q13, q14, e2, g2, l2, h2⟩ := t1_loop (x := .rol (ns.map .int)) (o4 := none) (o5 := none) (o15 := none) (o16 := none) CA (rng 0 ((4 : Int).toNat)) [] p 0 none none none none h1 (by rw [hlen]; decide) (by simp) (by rw [hlen]; decide)
  obtain ⟨q4, q5, q15, q16, e3⟩ := q1_ok (x := .rol (ns.map .int)) (p := p1) (o3 := q3) (o4 := none) (o5 := none) (o12 := q12) (o13 := q13) (o14 := q14) (o15 := none) (o16 := none) CA g2 (by rw [l2, hlen]; decide)
  have d : Done (m__law_part_one CA [some (.rol (ns.map .int)), none, none, none, none, none, none, none, none, none, none, none, none, none, none, none, none, none] []) := by
    rw [m_p1_eq]
    refine done_seq a1 (done_seq a2 (done_seq ((ev_for (ev_rng (by decide))).trans e2) (done_seq e3 ?_)))
    exact r1_ok CA h2 (by rw [hlen]; decide) (cr_it its)
  obtain ⟨b, e⟩ := d
  have := run_rtX (n := 18) (k := 1) (m := m__law_part_one CA) (ds := [.rol (ns.map .int)]) (bx := []) (d := .bl true) e (by simp) rfl rfl (fun j z => by cases z)
  exact this
end
end K0

set_option Elab.async false
set_option linter.all false
set_option maxRecDepth 100000
set_option maxHeartbeats 4000000
/-! K18: the second part, and the law. -/
namespace K0
open PySem DL
abbrev eB (CA : Ly) (e : ME) : ME := mCB (un1 fun x bx => noX (boolC 0 (r_Ranges___bool__ CA) x bx)) (aCons e aNil)
abbrev eW (CA : Ly) (e f : ME) : ME := mMt 0 "is_within" (r_Ranges_is_within CA) e (aCons f aNil)
abbrev eF (CA : Ly) : ME := mCM (CA 0) (r_Ranges_full CA) (mC (.adr (CA 0))) aNil
abbrev eE (CA : Ly) : ME := mCM (CA 0) (r_Ranges_empty CA) (mC (.adr (CA 0))) aNil
abbrev eP (e : ME) : ME := mUn (fldD "parts" [0]) e
abbrev mNo (t : MB) : MS := mIfS t (mRet (mC (.bl false))) mSkip
def m_in2 (CA : Ly) : MS := (mSeq (mNo (mNot (mTest (mF (r__law_outcome_right CA) (aCons (eOr CA (mVar 10) (mVar 12)) (aCons (mVar 11) (aCons (mVar 13) (aCons (mC (.str "either")) aNil))))))))
     (mSeq (mNo (mNot (mTest (mF (r__law_outcome_right CA) (aCons (eAnd CA (mVar 10) (mVar 12)) (aCons (mVar 11) (aCons (mVar 13) (aCons (mC (.str "common")) aNil))))))))
     (mSeq (mNo (mNot (mTest (mF (r__law_outcome_right CA) (aCons (eSub CA (mVar 10) (mVar 12)) (aCons (mVar 11) (aCons (mVar 13) (aCons (mC (.str "less")) aNil))))))))
     (mNo (mTest (mBin neD (eW CA (mVar 10) (mVar 12)) (mF (r__law_is_less CA) (aCons (mVar 11) (aCons (mVar 13) aNil)))))))))
def m_f2 (CA : Ly) : MS := mFor (iSeq (mLst (aCons (mTup (aCons (mVar 6) (aCons (mVar 3) aNil))) (aCons (mTup (aCons (mVar 7) (aCons (mVar 4) aNil))) aNil)))) (gTup [(gN 10), (gN 11)]) (mFor (iSeq (mLst (aCons (mTup (aCons (mVar 7) (aCons (mVar 4) aNil))) (aCons (mTup (aCons (mVar 8) (aCons (mVar 5) aNil))) (aCons (mTup (aCons (mVar 6) (aCons (mVar 3) aNil))) aNil))))) (gTup [(gN 12), (gN 13)]) (m_in2 CA))
def m_i2 (CA : Ly) : MS := (mSeq (mNo (mOr (mTest (eNe CA (eOr CA (eSub CA (mVar 6) (mVar 7)) (eAnd CA (mVar 6) (mVar 7))) (mVar 6))) (mOr (mTest (eNe CA (eSub CA (eOr CA (mVar 6) (mVar 7)) (mVar 7)) (eSub CA (mVar 6) (mVar 7)))) (mTest (eNe CA (eSub CA (eSub CA (mVar 6) (mVar 7)) (mVar 8)) (eSub CA (mVar 6) (eOr CA (mVar 7) (mVar 8))))))))
   (mSeq (mNo (mOr (mTest (eNe CA (eAnd CA (eOr CA (mVar 6) (mVar 7)) (mVar 8)) (eOr CA (eAnd CA (mVar 6) (mVar 8)) (eAnd CA (mVar 7) (mVar 8))))) (mTest (eNe CA (eSub CA (mVar 6) (eAnd CA (mVar 7) (mVar 8))) (eOr CA (eSub CA (mVar 6) (mVar 7)) (eSub CA (mVar 6) (mVar 8)))))))
   (mSeq (mNo (mOr (mNot (mTest (eW CA (eAnd CA (mVar 6) (mVar 7)) (mVar 6)))) (mOr (mNot (mTest (eW CA (mVar 6) (eOr CA (mVar 6) (mVar 8))))) (mTest (eNe CA (eAnd CA (eSub CA (mVar 6) (mVar 8)) (mVar 8)) (eE CA))))))
   (mSeq (mNo (mOr (mTest (eNe CA (eSub CA (eF CA) (eSub CA (eF CA) (mVar 6))) (mVar 6))) (mTest (mBin neD (eB CA (eAnd CA (mVar 6) (mVar 7))) (mBin neD (eP (eAnd CA (mVar 6) (mVar 7))) (mTup aNil))))))
   (mNo (mTest (mBin neD (mTup (aCons (eP (mVar 6)) (aCons (eP (mVar 7)) (aCons (eP (mVar 8)) aNil)))) (mVar 9))))))))
def m_b2 (CA : Ly) : MS := (mSeq (mAsg (mF (r__law_stretches_b CA) (aCons (mVar 1) (aCons (mC (.int 6)) aNil))) (gN 3))
   (mSeq (mAsg (mF (r__law_near CA) (aCons (mVar 1) (aCons (mVar 3) aNil))) (gN 4))
   (mSeq (mAsg (mF (r__law_near CA) (aCons (mVar 1) (aCons (mVar 4) aNil))) (gN 5))
   (mSeq (mPar3 6 7 8 (aCons (mF (r__law_made_b CA) (aCons (mVar 1) (aCons (mVar 3) aNil))) (aCons (mF (r__law_made_b CA) (aCons (mVar 1) (aCons (mVar 4) aNil))) (aCons (mF (r__law_made_b CA) (aCons (mVar 1) (aCons (mVar 5) aNil))) aNil))))
   (mSeq (mAsg (mTup (aCons (eP (mVar 6)) (aCons (eP (mVar 7)) (aCons (eP (mVar 8)) aNil)))) (gN 9))
   (mSeq (m_f2 CA) (m_i2 CA)))))))
theorem m_p2_eq (CA : Ly) : m__law_part_two CA = (mSeq (mBox (mF (r__law_pen CA) (aCons (mVar 0) aNil)) 1) (mSeq (mFor (iRng1M (mC (.int 2))) (gN 2) (m_b2 CA)) (mRet (mC (.bl true))))) := rfl
section
variable {CA : Ly} {bx : List D} {n m N M : Nat} {a b c st L R : List Stretch} {x y : D} {ρ : Sl} {P Q : Int → Prop} {e f : ME} {o10 o11 o12 o13 : Option D}
theorem str_eq {w u : PySem.Str} {k : Bool} (h1 : SeqAt.shaped (.str w) = true) (h2 : SeqAt.shaped (.str u) = true) (h3 : PyData.eqv (.str w) (.str u) = k) (bx : List D) : eqD (.str w) (.str u) bx = OK (.bl k) bx := by
  show (if SeqAt.shaped (.str w) = true ∧ SeqAt.shaped (.str u) = true then OK (.bl (PyData.eqv (.str w) (.str u))) bx else .stk) = _
  rw [if_pos ⟨h1, h2⟩, h3]
theorem sv_outcome {w : PySem.Str} {c1 c2 : Bool} (h1 : ∀ bx, eqD (.str w) (.str "common") bx = OK (.bl c1) bx) (h2 : ∀ bx, eqD (.str w) (.str "less") bx = OK (.bl c2) bx) (h : SV e ρ bx N P) (hN : N ≤ 100000) (ha : ρ[11]? = some (some (.lst (L.map sD)))) (hb : ρ[13]? = some (some (.lst (R.map sD)))) (hL : L.length ≤ 100000) (hR : R.length ≤ 100000) (hm : ∀ i, P i ↔ dueB c1 c2 (hasB L i) (hasB R i) = true) :
    mNot (mTest (mF (r__law_outcome_right CA) (aCons e (aCons (mVar 11) (aCons (mVar 13) (aCons (mC (.str w)) aNil)))))) ρ bx = .ok false bx := by
  obtain ⟨r, z, e1, d1, s1, m1⟩ := h
  refine ev_not (k := true) (ev_test ((ev_F (ev_cons e1 (ev_cons (ev_var ha) (ev_cons (ev_var hb) (ev_cons (r := .val (.str w)) (b := bx) rfl ev_nil))))).trans ?_))
  rw [d1]
  refine c_outcome CA (h1 bx) (h2 bx) s1 hN hL hR fun i => ?_
  exact Bool.eq_iff_iff.mpr ((hasB_iff z i).trans ((m1 i).trans (hm i)))
abbrev W2 (x : D) (o2 : Option D) (A B C a b c : List Stretch) (kept : D) (o10 o11 o12 o13 : Option D) : Sl := [some x, some (.box 0), o2, some (.lst (A.map sD)), some (.lst (B.map sD)), some (.lst (C.map sD)), some (rD a), some (rD b), some (rD c), some kept, o10, o11, o12, o13]
theorem in2_ok (CA : Ly) {l r : List Stretch} (hb : Cb bx) (hl : ItOk 40 (l, L)) (hr : ItOk 40 (r, R)) (h10 : ρ[10]? = some (some (rD l))) (h11 : ρ[11]? = some (some (.lst (L.map sD)))) (h12 : ρ[12]? = some (some (rD r))) (h13 : ρ[13]? = some (some (.lst (R.map sD)))) : m_in2 CA ρ bx = .nx ρ bx := by
  have hLl : L.length ≤ 40 := hl.l
  have hRl : R.length ≤ 40 := hr.l
  have sl := sv_var (bx := bx) h10 hl.s
  have sr := sv_var (bx := bx) h12 hr.s
  have ml : ∀ i, mem l i ↔ hasB L i = true := fun i => (hl.m i).trans (hasB_iff L i).symm
  have mr : ∀ i, mem r i ↔ hasB R i = true := fun i => (hr.m i).trans (hasB_iff R i).symm
  have t1 := sv_outcome (CA := CA) (w := "either") (c1 := false) (c2 := false) (str_eq (by decide +kernel) (by decide +kernel) (by decide +kernel)) (str_eq (by decide +kernel) (by decide +kernel) (by decide +kernel)) (sv_or (CA := CA) hb sl sr (by decide)) (by decide) h11 h13 (by omega) (by omega) (fun i => by rw [ml, mr]; simp [dueB])
  have t2 := sv_outcome (CA := CA) (w := "common") (c1 := true) (c2 := false) (str_eq (by decide +kernel) (by decide +kernel) (by decide +kernel)) (str_eq (by decide +kernel) (by decide +kernel) (by decide +kernel)) (sv_and (CA := CA) hb sl sr (by decide)) (by decide) h11 h13 (by omega) (by omega) (fun i => by rw [ml, mr]; simp [dueB])
  have t3 := sv_outcome (CA := CA) (w := "less") (c1 := false) (c2 := true) (str_eq (by decide +kernel) (by decide +kernel) (by decide +kernel)) (str_eq (by decide +kernel) (by decide +kernel) (by decide +kernel)) (sv_sub (CA := CA) hb sl sr (by decide) (by decide)) (by decide) h11 h13 (by omega) (by omega) (fun i => by rw [ml, mr]; simp [dueB])
  obtain ⟨k1, e1, i1⟩ := sv_within (CA := CA) hb sl sr (by decide) (by decide)
  obtain ⟨k2, e2, i2⟩ := c_less CA (bx := bx) (a := L) (b := R) (by omega) (by omega) (fun s hs => (List.mem_append.mp hs).elim (fun z => (hl.g s z).low) fun z => (hr.g s z).low)
  have hk : k1 = k2 := Bool.eq_iff_iff.mpr (i1.trans (Iff.trans ⟨fun h i hi => (hr.m i).mp (h i ((hl.m i).mpr hi)), fun h i hi => (hr.m i).mpr (h i ((hl.m i).mp hi))⟩ i2.symm))
  have t4 := ev_test ((ev_bin e1 ((ev_F (ev_cons (ev_var h11) (ev_cons (ev_var h13) ev_nil))).trans e2)).trans (ne_bb k1 k2 bx))
  rw [hk, show (k2 != k2) = false by simp] at t4
  unfold m_in2
  rw [ev_seq (ev_no t1), ev_seq (ev_no t2), ev_seq (ev_no t3)]
  exact ev_no t4
theorem f2_ok (CA : Ly) {A B C : List Stretch} {o2 : Option D} {kept : D} (hb : Cb bx) (ha : ItOk 40 (a, A)) (hbb : ItOk 40 (b, B)) (hc : ItOk 40 (c, C)) : ∃ q10 q11 q12 q13, m_f2 CA (W2 x o2 A B C a b c kept o10 o11 o12 o13) bx = .nx (W2 x o2 A B C a b c kept q10 q11 q12 q13) bx := by
  have inner : ∀ (it : It), ItOk 40 it → ∀ o12 o13, ∃ q12 q13, mFor (iSeq (mLst (aCons (mTup (aCons (mVar 7) (aCons (mVar 4) aNil))) (aCons (mTup (aCons (mVar 8) (aCons (mVar 5) aNil))) (aCons (mTup (aCons (mVar 6) (aCons (mVar 3) aNil))) aNil))))) (gTup [(gN 12), (gN 13)]) (m_in2 CA) (W2 x o2 A B C a b c kept (some (rD it.1)) (some (.lst (it.2.map sD))) o12 o13) bx = .nx (W2 x o2 A B C a b c kept (some (rD it.1)) (some (.lst (it.2.map sD))) q12 q13) bx := fun it hit o12 o13 => by
    have e0 : iSeq (mLst (aCons (mTup (aCons (mVar 7) (aCons (mVar 4) aNil))) (aCons (mTup (aCons (mVar 8) (aCons (mVar 5) aNil))) (aCons (mTup (aCons (mVar 6) (aCons (mVar 3) aNil))) aNil)))) (W2 x o2 A B C a b c kept (some (rD it.1)) (some (.lst (it.2.map sD))) o12 o13) bx = .ok ([(b, B), (c, C), (a, A)].map iD) bx := rfl
    obtain ⟨ρ2, e, q12, q13, rfl⟩ := loop_all (g := gTup [(gN 12), (gN 13)]) (m := m_in2 CA) (bx := bx) (fun ρ => ∃ q12 q13, ρ = W2 x o2 A B C a b c kept (some (rD it.1)) (some (.lst (it.2.map sD))) q12 q13) ([(b, B), (c, C), (a, A)].map iD) (fun d hd ρ hs => by
      obtain ⟨q12, q13, rfl⟩ := hs
      obtain ⟨jt, hj, rfl⟩ := List.mem_map.mp hd
      have hjt : ItOk 40 jt := by
        simp only [List.mem_cons, List.not_mem_nil, or_false] at hj
        rcases hj with rfl | rfl | rfl
        · exact hbb
        · exact hc
        · exact ha
      exact ⟨W2 x o2 A B C a b c kept (some (rD it.1)) (some (.lst (it.2.map sD))) (some (rD jt.1)) (some (.lst (jt.2.map sD))), _, rfl, in2_ok CA hb hit hjt rfl rfl rfl rfl, _, _, rfl⟩) (W2 x o2 A B C a b c kept (some (rD it.1)) (some (.lst (it.2.map sD))) o12 o13) ⟨o12, o13, rfl⟩
    exact ⟨q12, q13, (ev_for e0).trans e⟩
  have e0 : iSeq (mLst (aCons (mTup (aCons (mVar 6) (aCons (mVar 3) aNil))) (aCons (mTup (aCons (mVar 7) (aCons (mVar 4) aNil))) aNil))) (W2 x o2 A B C a b c kept o10 o11 o12 o13) bx = .ok ([(a, A), (b, B)].map iD) bx := rfl
  obtain ⟨ρ2, e, q10, q11, q12, q13, rfl⟩ := loop_all (g := gTup [(gN 10), (gN 11)]) (m := mFor (iSeq (mLst (aCons (mTup (aCons (mVar 7) (aCons (mVar 4) aNil))) (aCons (mTup (aCons (mVar 8) (aCons (mVar 5) aNil))) (aCons (mTup (aCons (mVar 6) (aCons (mVar 3) aNil))) aNil))))) (gTup [(gN 12), (gN 13)]) (m_in2 CA)) (bx := bx) (fun ρ => ∃ q10 q11 q12 q13, ρ = W2 x o2 A B C a b c kept q10 q11 q12 q13) ([(a, A), (b, B)].map iD) (fun d hd ρ hs => by
    obtain ⟨q10, q11, q12, q13, rfl⟩ := hs
    obtain ⟨it, hi, rfl⟩ := List.mem_map.mp hd
    have hit : ItOk 40 it := by
      simp only [List.mem_cons, List.not_mem_nil, or_false] at hi
      rcases hi with rfl | rfl
      · exact ha
      · exact hbb
    obtain ⟨z12, z13, e⟩ := inner it hit q12 q13
    exact ⟨W2 x o2 A B C a b c kept (some (rD it.1)) (some (.lst (it.2.map sD))) q12 q13, _, rfl, e, _, _, _, _, rfl⟩) (W2 x o2 A B C a b c kept o10 o11 o12 o13) ⟨o10, o11, o12, o13, rfl⟩
  exact ⟨q10, q11, q12, q13, (ev_for e0).trans e⟩
theorem ne_three (a b c : List Stretch) : neD (.tup [.tup (a.map sD), .tup (b.map sD), .tup (c.map sD)]) (.tup [.tup (a.map sD), .tup (b.map sD), .tup (c.map sD)]) bx = OK (.bl false) bx := by
  have e1 : D.toPB bx (.tup [.tup (a.map sD), .tup (b.map sD), .tup (c.map sD)]) = some (.tuple [.tuple (a.map sP), .tuple (b.map sP), .tuple (c.map sP)]) := by
    have h : ∀ a : List Stretch, (D.tup (a.map sD)).toP = some (.tuple (a.map sP)) := fun a => toPB_t a []
    show (match (match (D.tup (a.map sD)).toP, (match (D.tup (b.map sD)).toP, (match (D.tup (c.map sD)).toP, (some [] : Option (List PyData)) with | some p, some ps => some (p :: ps) | _, _ => none) with | some p, some ps => some (p :: ps) | _, _ => none) with | some p, some ps => some (p :: ps) | _, _ => none) with | some ps => some (PyData.tuple ps) | none => none) = _
    rw [h, h, h]
  have sh : SeqAt.shaped (.tuple [.tuple (a.map sP), .tuple (b.map sP), .tuple (c.map sP)]) = true := by
    have h1 := deeps_s a
    have h2 := deeps_s b
    have h3 := deeps_s c
    have hd : (PyData.tuple [.tuple (a.map sP), .tuple (b.map sP), .tuple (c.map sP)]).depth ≤ 64 := by
      simp only [PyData.depth, PyData.depthAll]
      omega
    unfold SeqAt.shaped
    rw [show (PyData.tuple [.tuple (a.map sP), .tuple (b.map sP), .tuple (c.map sP)]).canLay0 = (PyData.canLayAll0 (a.map sP) && (PyData.canLayAll0 (b.map sP) && (PyData.canLayAll0 (c.map sP) && true))) from rfl, lays_s, lays_s, lays_s, decide_eq_true hd]
    rfl
  unfold neD
  rw [e1]
  show (if SeqAt.shaped (.tuple [.tuple (a.map sP), .tuple (b.map sP), .tuple (c.map sP)]) = true ∧ SeqAt.shaped (.tuple [.tuple (a.map sP), .tuple (b.map sP), .tuple (c.map sP)]) = true then OK (.bl (!PyData.eqv (.tuple [.tuple (a.map sP), .tuple (b.map sP), .tuple (c.map sP)]) (.tuple [.tuple (a.map sP), .tuple (b.map sP), .tuple (c.map sP)]))) bx else .stk) = _
  rw [if_pos ⟨sh, sh⟩]
  simp only [PyData.eqv, PyData.eqvAll, eqv_st]
  simp
theorem i2_ok (CA : Ly) {A B C : List Stretch} {o2 : Option D} (hb : Cb bx) (ha : St 12 a) (hbb : St 20 b) (hc : St 28 c) : m_i2 CA (W2 x o2 A B C a b c (.tup [.tup (a.map sD), .tup (b.map sD), .tup (c.map sD)]) o10 o11 o12 o13) bx = .nx (W2 x o2 A B C a b c (.tup [.tup (a.map sD), .tup (b.map sD), .tup (c.map sD)]) o10 o11 o12 o13) bx := by
  obtain ⟨ρ, hρ⟩ : ∃ ρ, ρ = W2 x o2 A B C a b c (.tup [.tup (a.map sD), .tup (b.map sD), .tup (c.map sD)]) o10 o11 o12 o13 := ⟨_, rfl⟩
  have r6 : ρ[6]? = some (some (rD a)) := by rw [hρ]; rfl
  have r7 : ρ[7]? = some (some (rD b)) := by rw [hρ]; rfl
  have r8 : ρ[8]? = some (some (rD c)) := by rw [hρ]; rfl
  have r9 : ρ[9]? = some (some (.tup [.tup (a.map sD), .tup (b.map sD), .tup (c.map sD)])) := by rw [hρ]; rfl
  rw [← hρ]
  have va := sv_var (bx := bx) r6 ha
  have vb := sv_var (bx := bx) r7 hbb
  have vc := sv_var (bx := bx) r8 hc
  have ab := sv_and (CA := CA) hb va vb (by decide)
  have aSb := sv_sub (CA := CA) hb va vb (by decide) (by decide)
  have aSc := sv_sub (CA := CA) hb va vc (by decide) (by decide)
  have aOb := sv_or (CA := CA) hb va vb (by decide)
  have t1 := sv_ne (CA := CA) (sv_or (CA := CA) hb aSb ab (by decide)) va (fun k => by by_cases h1 : mem a k <;> by_cases h2 : mem b k <;> simp [h1, h2])
  have t2 := sv_ne (CA := CA) (sv_sub (CA := CA) hb aOb vb (by decide) (by decide)) aSb (fun k => by by_cases h1 : mem a k <;> by_cases h2 : mem b k <;> simp [h1, h2])
  have t3 := sv_ne (CA := CA) (sv_sub (CA := CA) hb aSb vc (by decide) (by decide)) (sv_sub (CA := CA) hb va (sv_or (CA := CA) hb vb vc (by decide)) (by decide) (by decide)) (fun k => by by_cases h1 : mem a k <;> by_cases h2 : mem b k <;> by_cases h3 : mem c k <;> simp [h1, h2, h3])
  have t4 := sv_ne (CA := CA) (sv_and (CA := CA) hb aOb vc (by decide)) (sv_or (CA := CA) hb (sv_and (CA := CA) hb va vc (by decide)) (sv_and (CA := CA) hb vb vc (by decide)) (by decide)) (fun k => by by_cases h1 : mem a k <;> by_cases h2 : mem b k <;> by_cases h3 : mem c k <;> simp [h1, h2, h3])
  have t5 := sv_ne (CA := CA) (sv_sub (CA := CA) hb va (sv_and (CA := CA) hb vb vc (by decide)) (by decide) (by decide)) (sv_or (CA := CA) hb aSb aSc (by decide)) (fun k => by by_cases h1 : mem a k <;> by_cases h2 : mem b k <;> by_cases h3 : mem c k <;> simp [h1, h2, h3])
  obtain ⟨k6, e6, i6⟩ := sv_within (CA := CA) hb ab va (by decide) (by decide)
  obtain ⟨k7, e7, i7⟩ := sv_within (CA := CA) hb va (sv_or (CA := CA) hb va vc (by decide)) (by decide) (by decide)
  rw [i6.mpr fun i h => h.1] at e6
  rw [i7.mpr fun i h => .inl h] at e7
  have t8 := sv_ne (CA := CA) (sv_and (CA := CA) hb aSc vc (by decide)) (sv_empty (CA := CA) hb) (fun k => by by_cases h1 : mem a k <;> by_cases h3 : mem c k <;> simp [h1, h3])
  have t9 := sv_ne (CA := CA) (sv_sub (CA := CA) hb (sv_full (CA := CA) hb) (sv_sub (CA := CA) hb (sv_full (CA := CA) hb) va (by decide) (by decide)) (by decide) (by decide)) va (fun k => by by_cases h1 : mem a k <;> simp [h1])
  have t10 : mTest (mBin neD (eB CA (eAnd CA (mVar 6) (mVar 7))) (mBin neD (eP (eAnd CA (mVar 6) (mVar 7))) (mTup aNil))) ρ bx = .ok false bx := by
    obtain ⟨r, z, e, d, _, _⟩ := ab
    have f1 : eB CA (eAnd CA (mVar 6) (mVar 7)) ρ bx = .ok (.val (.bl (!z.isEmpty))) bx := (ev_CB (ev_cons e ev_nil)).trans (by rw [d]; exact q_bool CA z)
    have f2 : eP (eAnd CA (mVar 6) (mVar 7)) ρ bx = .ok (.val (.tup (z.map sD))) bx := (ev_un e).trans (by rw [d]; exact fld_r z bx)
    have f3 := (ev_bin f2 (r' := .val (.tup (([] : List Stretch).map sD))) (b' := bx) (m' := mTup aNil) rfl).trans (ne_t z [] bx)
    have f4 := ev_test ((ev_bin f1 f3).trans (ne_bb _ _ bx))
    rw [show ((!z.isEmpty) != !decide (z = [])) = false by cases z <;> simp] at f4
    exact f4
  have t11 : mTest (mBin neD (mTup (aCons (eP (mVar 6)) (aCons (eP (mVar 7)) (aCons (eP (mVar 8)) aNil)))) (mVar 9)) ρ bx = .ok false bx := by
    have f1 : mTup (aCons (eP (mVar 6)) (aCons (eP (mVar 7)) (aCons (eP (mVar 8)) aNil))) ρ bx = .ok (.val (.tup [.tup (a.map sD), .tup (b.map sD), .tup (c.map sD)])) bx := by
      unfold mTup
      rw [ev_cons (fld_v r6) (ev_cons (fld_v r7) (ev_cons (fld_v r8) ev_nil))]
      rfl
    exact ev_test ((ev_bin f1 (ev_var r9)).trans (ne_three a b c))
  unfold m_i2
  rw [ev_seq (ev_no ((ev_orF t1).trans ((ev_orF t2).trans t3))), ev_seq (ev_no ((ev_orF t4).trans t5)), ev_seq (ev_no ((ev_orF (ev_not (ev_test e6))).trans ((ev_orF (ev_not (ev_test e7))).trans t8))), ev_seq (ev_no ((ev_orF t9).trans t10))]
  exact ev_no t11
theorem cr_nil : Cr [] := fun p => by
  show (D.cl 1 (pD p) && true) = true
  rw [cl_p]; rfl
theorem b2_ok (CA : Ly) {p : Pn} {k : Int} (hp : PO p k) (hk : k < 900000) {o2 o3 o4 o5 o6 o7 o8 o9 : Option D} : ∃ (p' : Pn) (q3 q4 q5 q6 q7 q8 q9 q10 q11 q12 q13 : Option D), m_b2 CA [some x, some (.box 0), o2, o3, o4, o5, o6, o7, o8, o9, o10, o11, o12, o13] [pD p] = .nx [some x, some (.box 0), o2, q3, q4, q5, q6, q7, q8, q9, q10, q11, q12, q13] [pD p'] ∧ PO p' (k + 2000) := by
  obtain ⟨A, p1, e1, g1, l1, h1⟩ := Stw_b CA p k 6 [] hp (by omega) (by omega) cr_nil
  obtain ⟨B, p2, e2, g2, l2, h2⟩ := near_ok (Drw_b CA) (Stw_b CA) h1 (by omega) cr_nil g1 (by omega)
  obtain ⟨C, p3, e3, g3, l3, h3⟩ := near_ok (Drw_b CA) (Stw_b CA) h2 (by omega) cr_nil g2 (by omega)
  obtain ⟨a, p4, e4, f4, m4, h4⟩ := made_ok CA (Drw_b CA) h3 (by omega) cr_nil (st := A) (by omega) (fun s hs => (g1 s hs).ok)
  obtain ⟨b, p5, e5, f5, m5, h5⟩ := made_ok CA (Drw_b CA) h4 (by omega) cr_nil (st := B) (by omega) (fun s hs => (g2 s hs).ok)
  obtain ⟨c, p6, e6, f6, m6, h6⟩ := made_ok CA (Drw_b CA) h5 (by omega) cr_nil (st := C) (by omega) (fun s hs => (g3 s hs).ok)
  rw [← nr_b] at e2 e3
  rw [← md_b] at e4 e5 e6
  have s1 : mAsg (mF (r__law_stretches_b CA) (aCons (mVar 1) (aCons (mC (.int 6)) aNil))) (gN 3) [some x, some (.box 0), o2, o3, o4, o5, o6, o7, o8, o9, o10, o11, o12, o13] [pD p] = .nx [some x, some (.box 0), o2, some (.lst (A.map sD)), o4, o5, o6, o7, o8, o9, o10, o11, o12, o13] [pD p1] :=
    ev_asg (i := 3) (r := .new (.lst (A.map sD))) ((ev_F (ev_cons (r := .val (.box 0)) (b := [pD p]) rfl (ev_cons (r := .val (.int 6)) (b := [pD p]) rfl ev_nil))).trans e1)
  have s2 : mAsg (mF (r__law_near CA) (aCons (mVar 1) (aCons (mVar 3) aNil))) (gN 4) [some x, some (.box 0), o2, some (.lst (A.map sD)), o4, o5, o6, o7, o8, o9, o10, o11, o12, o13] [pD p1] = .nx [some x, some (.box 0), o2, some (.lst (A.map sD)), some (.lst (B.map sD)), o5, o6, o7, o8, o9, o10, o11, o12, o13] [pD p2] :=
    ev_asg (i := 4) (r := .new (.lst (B.map sD))) ((ev_F (ev_cons (r := .val (.box 0)) (b := [pD p1]) rfl (ev_cons (r := .val (.lst (A.map sD))) (b := [pD p1]) rfl ev_nil))).trans e2)
  have s3 : mAsg (mF (r__law_near CA) (aCons (mVar 1) (aCons (mVar 4) aNil))) (gN 5) [some x, some (.box 0), o2, some (.lst (A.map sD)), some (.lst (B.map sD)), o5, o6, o7, o8, o9, o10, o11, o12, o13] [pD p2] = .nx [some x, some (.box 0), o2, some (.lst (A.map sD)), some (.lst (B.map sD)), some (.lst (C.map sD)), o6, o7, o8, o9, o10, o11, o12, o13] [pD p3] :=
    ev_asg (i := 5) (r := .new (.lst (C.map sD))) ((ev_F (ev_cons (r := .val (.box 0)) (b := [pD p2]) rfl (ev_cons (r := .val (.lst (B.map sD))) (b := [pD p2]) rfl ev_nil))).trans e3)
  have s4 : mPar3 6 7 8 (aCons (mF (r__law_made_b CA) (aCons (mVar 1) (aCons (mVar 3) aNil))) (aCons (mF (r__law_made_b CA) (aCons (mVar 1) (aCons (mVar 4) aNil))) (aCons (mF (r__law_made_b CA) (aCons (mVar 1) (aCons (mVar 5) aNil))) aNil))) [some x, some (.box 0), o2, some (.lst (A.map sD)), some (.lst (B.map sD)), some (.lst (C.map sD)), o6, o7, o8, o9, o10, o11, o12, o13] [pD p3] = .nx [some x, some (.box 0), o2, some (.lst (A.map sD)), some (.lst (B.map sD)), some (.lst (C.map sD)), some (rD a), some (rD b), some (rD c), o9, o10, o11, o12, o13] [pD p6] :=
    ev_par3 (u := rD a) (v := rD b) (w := rD c) (b := [pD p6]) (ev_cons (r := .val (rD a)) (b := [pD p4]) ((ev_F (ev_cons (r := .val (.box 0)) (b := [pD p3]) rfl (ev_cons (r := .val (.lst (A.map sD))) (b := [pD p3]) rfl ev_nil))).trans e4) (ev_cons (r := .val (rD b)) (b := [pD p5]) ((ev_F (ev_cons (r := .val (.box 0)) (b := [pD p4]) rfl (ev_cons (r := .val (.lst (B.map sD))) (b := [pD p4]) rfl ev_nil))).trans e5) (ev_cons (r := .val (rD c)) (b := [pD p6]) ((ev_F (ev_cons (r := .val (.box 0)) (b := [pD p5]) rfl (ev_cons (r := .val (.lst (C.map sD))) (b := [pD p5]) rfl ev_nil))).trans e6) ev_nil)))
  have s5 : mAsg (mTup (aCons (eP (mVar 6)) (aCons (eP (mVar 7)) (aCons (eP (mVar 8)) aNil)))) (gN 9) [some x, some (.box 0), o2, some (.lst (A.map sD)), some (.lst (B.map sD)), some (.lst (C.map sD)), some (rD a), some (rD b), some (rD c), o9, o10, o11, o12, o13] [pD p6] = .nx (W2 x o2 A B C a b c (.tup [.tup (a.map sD), .tup (b.map sD), .tup (c.map sD)]) o10 o11 o12 o13) [pD p6] := by
    refine ev_asg (i := 9) (r := .val (.tup [.tup (a.map sD), .tup (b.map sD), .tup (c.map sD)])) ?_
    unfold mTup
    rw [ev_cons (fld_v (a := a) rfl) (ev_cons (fld_v (a := b) rfl) (ev_cons (fld_v (a := c) rfl) ev_nil))]
    rfl
  have ia : ItOk 40 (a, A) := ⟨f4.mono (by omega), m4, g1, by show A.length ≤ 40; omega⟩
  have ib : ItOk 40 (b, B) := ⟨f5.mono (by omega), m5, g2, by show B.length ≤ 40; omega⟩
  have ic : ItOk 40 (c, C) := ⟨f6.mono (by omega), m6, g3, by show C.length ≤ 40; omega⟩
  obtain ⟨q10, q11, q12, q13, s6⟩ := f2_ok (x := x) (o2 := o2) (o10 := o10) (o11 := o11) (o12 := o12) (o13 := o13) (kept := .tup [.tup (a.map sD), .tup (b.map sD), .tup (c.map sD)]) CA (cr_nil p6) ia ib ic
  have s7 := i2_ok (x := x) (o2 := o2) (A := A) (B := B) (C := C) (o10 := q10) (o11 := q11) (o12 := q12) (o13 := q13) CA (cr_nil p6) (f4.mono (by omega)) (f5.mono (by omega)) (f6.mono (by omega))
  refine ⟨p6, some (.lst (A.map sD)), some (.lst (B.map sD)), some (.lst (C.map sD)), some (rD a), some (rD b), some (rD c), some (.tup [.tup (a.map sD), .tup (b.map sD), .tup (c.map sD)]), q10, q11, q12, q13, ?_, h6.mono (by omega)⟩
  unfold m_b2
  rw [ev_seq s1, ev_seq s2, ev_seq s3, ev_seq s4, ev_seq s5, ev_seq s6, s7]
theorem b2_loop (CA : Ly) : ∀ (ds : List D) (p : Pn) (k : Int) (o2 o3 o4 o5 o6 o7 o8 o9 o10 o11 o12 o13 : Option D), PO p k → k + 2000 * ds.length < 900000 →
    ∃ (p' : Pn) (q2 q3 q4 q5 q6 q7 q8 q9 q10 q11 q12 q13 : Option D), loop (gN 2) (m_b2 CA) ds [some x, some (.box 0), o2, o3, o4, o5, o6, o7, o8, o9, o10, o11, o12, o13] [pD p] = .nx [some x, some (.box 0), q2, q3, q4, q5, q6, q7, q8, q9, q10, q11, q12, q13] [pD p']
  | [], p, k, o2, o3, o4, o5, o6, o7, o8, o9, o10, o11, o12, o13, _, _ => ⟨p, o2, o3, o4, o5, o6, o7, o8, o9, o10, o11, o12, o13, rfl⟩
  | d :: ds, p, k, o2, o3, o4, o5, o6, o7, o8, o9, o10, o11, o12, o13, hp, hk => by
    rw [List.length_cons] at hk
    obtain ⟨p1, z3, z4, z5, z6, z7, z8, z9, z10, z11, z12, z13, e1, h1⟩ := b2_ok (x := x) CA hp (by omega) (o2 := some d) (o3 := o3) (o4 := o4) (o5 := o5) (o6 := o6) (o7 := o7) (o8 := o8) (o9 := o9) (o10 := o10) (o11 := o11) (o12 := o12) (o13 := o13)
    obtain ⟨p2, q2, q3, q4, q5, q6, q7, q8, q9, q10, q11, q12, q13, e2⟩ := b2_loop CA ds p1 (k + 2000) (some d) z3 z4 z5 z6 z7 z8 z9 z10 z11 z12 z13 h1 (by omega)
    exact ⟨p2, q2, q3, q4, q5, q6, q7, q8, q9, q10, q11, q12, q13, (loop_nx (ρ1 := [some x, some (.box 0), some d, o3, o4, o5, o6, o7, o8, o9, o10, o11, o12, o13]) rfl e1).trans e2⟩
theorem c_part_two (CA : Ly) (ns : List Int) (hn : ns.length ≤ 63) : r__law_part_two CA [.rol (ns.map .int)] [] = .ok (.val (.bl true)) [] := by
  obtain ⟨p, e1, h1⟩ := c_pen CA ns hn []
  have a1 : mBox (mF (r__law_pen CA) (aCons (mVar 0) aNil)) 1 [some (.rol (ns.map .int)), none, none, none, none, none, none, none, none, none, none, none, none, none] [] = .nx [some (.rol (ns.map .int)), some (.box 0), none, none, none, none, none, none, none, none, none, none, none, none] [pD p] :=
    ev_box (i := 1) (d := pD p) (b := []) ((ev_F (ev_cons (r := .val (.rol (ns.map .int))) (b := []) rfl ev_nil)).trans e1)
  have hlen : (rng 0 ((2 : Int).toNat)).length = 2 := rng_len
  obtain ⟨p1, q2, q3, q4, q5, q6, q7, q8, q9, q10, q11, q12, q13, e2⟩ := b2_loop (x := .rol (ns.map .int)) CA (rng 0 ((2 : Int).toNat)) p 0 none none none none none none none none none none none none h1 (by rw [hlen]; decide)
  have e : m__law_part_two CA [some (.rol (ns.map .int)), none, none, none, none, none, none, none, none, none, none, none, none, none] [] = .rt (.val (.bl true)) [pD p1] := by
    rw [m_p2_eq, ev_seq a1, ev_seq ((ev_for (ev_rng (by decide))).trans e2)]
    rfl
  exact run_rtX (n := 14) (k := 1) (m := m__law_part_two CA) (ds := [.rol (ns.map .int)]) (bx := []) (d := .bl true) e (by simp) rfl rfl (fun j z => by cases z)
theorem law_true (CA : Ly) (ns : List Int) (hn : ns.length ≤ 63) : g_law CA [.rol (ns.map .int)] [] = .ok (.val (.bl true)) [] := by
  refine body_rt (b := []) ?_ rfl
  show m_law CA [some (.rol (ns.map .int))] [] = _
  unfold m_law
  refine ev_ret ?_
  have f1 : mF (r__law_part_one CA) (aCons (mVar 0) aNil) [some (.rol (ns.map .int))] [] = .ok (.val (.bl true)) [] := (ev_F (ev_cons (r := .val (.rol (ns.map .int))) (b := []) rfl ev_nil)).trans (c_part_one CA ns hn)
  have f2 : mF (r__law_part_two CA) (aCons (mVar 0) aNil) [some (.rol (ns.map .int))] [] = .ok (.val (.bl true)) [] := (ev_F (ev_cons (r := .val (.rol (ns.map .int))) (b := []) rfl ev_nil)).trans (c_part_two CA ns hn)
  exact (ev_andVT f1).trans f2
end
end K0

set_option Elab.async false
set_option linter.all false
set_option maxRecDepth 100000
set_option maxHeartbeats 0
/-! K0R: the top of k00, run. -/
namespace K0
open PySem PySem.Spec PyProof.Rows L2
abbrev R : PySem.W.OpenRow := PySem.W.OpenLaw.row PySem.Challenge.rw_speakanew_k00_sets_of_stretches_and_sets
def fa : List He.Fa := gn.map .glo ++ bn.map .free ++ gn.map .keep ++ [.cls "Ranges", .noat "Ranges" "parts", .mkr "Ranges"] ++ meths.map (.meth "Ranges")
def caOf (K : PySem.W.Frag) : DL.Ly := ⟨fun _ => He.ga K "Ranges", [(pJ K, ("joined" : PySem.Str) ++ ".<locals>." ++ "<lambda>")]⟩
def findB (K : PySem.W.Frag) (v : Value) (x : PySem.Str) (u : Value) : Bool := He.eqO (PySem.W.findIn K v x) (some (some u))
def cmB (K : PySem.W.Frag) (C : Addr) (m : PySem.Str) : Bool := match PySem.W.findCls K (.ref C) (.type "type") m with
  | some (.get (.builtin b) (.ref p) .none (.ref C')) => decide (b = "classmethod.__get__") && (decide (C' = C) && ((match PySem.W.recIn K p "classmethod" with
    | some (.ref g :: _) => decide (g = cmA K "Ranges" m)
    | _ => false) && PySem.W.fnIn K (cmA K "Ranges" m)))
  | _ => false
/-- a class method's def as observed -/
def cA (K : PySem.W.Frag) (d : He.DefD) : Addr := match d.at_.2 with
  | some m => cmA K d.at_.1 m
  | none => 0
def fnC (K : PySem.W.Frag) (d : He.DefD) : He.FnW := match K.lookup (cA K d) with
  | some ⟨_, _, .func fd, _⟩ => some (fd.name, fd.qualname, fd.params, fd.body, fd.scope, fd.globals, fd.closure, fd.builtins)
  | _ => none
def okC (K : PySem.W.Frag) (d : He.DefD) : Bool := PySem.W.keepIn K (.ref (cA K d)) && (match K.lookup (cA K d) with
  | some ⟨_, _, .func fd, _⟩ => PySem.W.codeIn K fd.code d.qual && (He.dflB K fd.defaults [] && He.kwdB K fd.kwdefaults [])
  | _ => false)
def ex (K : PySem.W.Frag) : Bool :=
  let C := He.ga K "Ranges"
  findB K (.ref C) "__class__" (.builtin "object.__class__") && (He.eqO (PySem.W.specialIn K (.builtin "object.__class__") "__get__") (some (some (.builtin "getset_descriptor.__get__"))) &&
  (decide (PySem.W.takesIn K (.builtin "object.__class__") = some true) && (decide (PySem.W.mroIn K C (.type "object") = some true) &&
  (PySem.W.selfFirst K C && (findB K (.ref C) "__ne__" (.builtin "object.__ne__") &&
  (((DL.codes [0]).all fun t => PySem.W.notFirst K C (DL.tcV (caOf K) t)) && (([0, 1, 2, 3, 4, 5] : List Nat).all (fun t => decide (PySem.W.subIn K (.ref C) (DL.tcV (caOf K) t) = some false)) &&
  (((DL.codes [0]).all fun a => (DL.codes [0]).all fun b => decide (PySem.W.kitOne K (DL.tcV (caOf K) a) (DL.tcV (caOf K) b) = some (tabI a b))) &&
  (PySem.W.readsIn K C (.type "type") && (He.eqO (PySem.W.specialIn K (.ref C) "__getattribute__") (some (some (.builtin "type.__getattribute__"))) &&
  (cms.all (cmB K C)))))))))))) 
def tf : List He.Defn := [("joined", none)]
abbrev AlY : Type := He.AlT × (Bool × List He.FnW)
/-- what is looked at: all that hangs on the module, and the statics -/
def kY (g : Addr → Option Obj) : PySem.W.Frag := He.frT g (He.asD g 6 ++ [cStatics])
def tbY (g : Addr → Option Obj) (K : PySem.W.Frag) : Bool := PySem.W.codeHdIn K (cJ K) (pJ K) && (match g (pJ K) with
  | some o => He.emptyTab o
  | none => false)
def obsY (g : Addr → Option Obj) : AlY := (He.obsT fa defs [] (kY g), (ex (kY g) && (tbY g (kY g) && dcms.all (okC (kY g))), dcms.map (fnC (kY g))))
def valY (w : World) : AlY := (He.valT defs [] w, (true, dcms.map He.DefD.val))
structure SaysY (w : World) (h : Heap) (K : PySem.W.Frag) : Prop where
  t : He.SaysT fa defs [] w K
  more : ex K = true
  hd : PySem.W.codeHdIn K (cJ K) (pJ K) = true
  out : K.lookup (pJ K) = none
  empty : h.get? (pJ K) = some { cls := .none, data := .fields #[] }
  c1 : dcms.all (okC K) = true
  c2 : dcms.map (fnC K) = dcms.map He.DefD.val
theorem saysY_of {w : World} {h : Heap} (e : obsY h.get? = valY w) : SaysY w h (kY h.get?) := by
  have e1 : He.obsT fa defs [] (kY h.get?) = He.valT defs [] w := congrArg (fun z : AlY => z.1) e
  have e2 : (ex (kY h.get?) && (tbY h.get? (kY h.get?) && dcms.all (okC (kY h.get?)))) = true := congrArg (fun z : AlY => z.2.1) e
  have e3 : dcms.map (fnC (kY h.get?)) = dcms.map He.DefD.val := congrArg (fun z : AlY => z.2.2) e
  obtain ⟨h1, h2⟩ := He.ba e2
  obtain ⟨h3, h4⟩ := He.ba h2
  obtain ⟨h5, h6⟩ := He.ba h3
  cases q : h.get? (pJ (kY h.get?)) with
  | none => rw [q] at h6; cases h6
  | some o =>
    rw [q] at h6
    exact ⟨e1, h1, h5, He.frT_none q h6, by rw [q, He.emptyTab_eq h6], h4, e3⟩
def hk : PySem.W.Hook where
  α := AlY
  obs := fun s => obsY s.heap.get?
  val := fun w => valY w
  says := fun w h => ∃ K : PySem.W.Frag, K.In h ∧ SaysY w h K
  of := fun w s e => ⟨_, He.frT_in, saysY_of e⟩
  keeps := fun _ _ _ ⟨K, hK, c⟩ k => ⟨K, PySem.W.Frag.In.keeps hK k, ⟨c.t, c.more, c.hd, c.out, k _ _ c.empty, c.c1, c.c2⟩⟩
def ob (s : PySem.W.SharedT) : AlY := obsY (HandSHeadRun.getT s)
theorem ob_eq (s : PySem.W.SharedT) : ob s = hk.obs s.abs := by
  have e : HandSHeadRun.getT s = s.abs.heap.get? := funext (HandSHeadRun.getT_eq s)
  show obsY _ = obsY _
  rw [e]
def names : List PySem.Str := ["_wall", "is_integer", "higher_low", "lower_high", "higher_high", "is_empty", "joined", "common", "outside", "has_number", "Ranges", "_law_pen", "_law_draw", "_law_end", "_law_stretches", "_law_has", "_law_points", "_law_is_joined", "_law_made", "_law_same", "_law_is_right", "_law_alike", "_law_part_one", "_law_draw_b", "_law_end_b", "_law_stretches_b", "_law_made_b", "_law_near", "_law_outcome_right", "_law_is_less", "_law_part_two"]
theorem run (w : World) : HandSHeadRun.RunEq R (PySem.W.view R.prog [33]) hk ob 3000 names w := by
  intro os
  kernel_rfl
end K0

set_option Elab.async false
set_option linter.all false
set_option maxRecDepth 100000
set_option maxHeartbeats 4000000
/-! K0E: from the run of the top to what the walk leans on. -/
namespace K0
open PySem PySem.Spec PyProof.Rows L2
section
variable {w : World} {h : Heap} {K : PySem.W.Frag} {mg : PySem.Str → Option Value} {base : Heap}
theorem fa_glo {x : PySem.Str} (hx : x ∈ gn) : He.Fa.glo x ∈ fa := by unfold fa; simp only [List.mem_append, List.mem_map]; exact .inl (.inl (.inl (.inl ⟨x, hx, rfl⟩)))
theorem fa_free {x : PySem.Str} (hx : x ∈ bn) : He.Fa.free x ∈ fa := by unfold fa; simp only [List.mem_append, List.mem_map]; exact .inl (.inl (.inl (.inr ⟨x, hx, rfl⟩)))
theorem fa_keep {x : PySem.Str} (hx : x ∈ gn) : He.Fa.keep x ∈ fa := by unfold fa; simp only [List.mem_append, List.mem_map]; exact .inl (.inl (.inr ⟨x, hx, rfl⟩))
theorem fa_more {f : He.Fa} (hf : f ∈ [He.Fa.cls "Ranges", .noat "Ranges" "parts", .mkr "Ranges"]) : f ∈ fa := by unfold fa; exact List.mem_append_left _ (List.mem_append_right _ hf)
theorem fa_meth {x : PySem.Str} (hx : x ∈ meths) : He.Fa.meth "Ranges" x ∈ fa := by unfold fa; exact List.mem_append_right _ (List.mem_map.mpr ⟨x, hx, rfl⟩)
theorem plain_defs : defs.all (fun d => d.dfl.isEmpty && d.kwd.isEmpty) = true := rfl
theorem funC {d : He.DefD} {m : PySem.Str} (hm : d.at_.2 = some m) (e : fnC K d = d.val) (c : okC K d = true) : ∃ fd, FunD K d.name d.qual d.params d.body d.scope [] [] (cmA K d.at_.1 m) fd := by
  have ea : cA K d = cmA K d.at_.1 m := by unfold cA; rw [hm]
  obtain ⟨kp, c2⟩ := He.ba c
  rw [ea] at kp c2
  unfold fnC at e
  rw [ea] at e
  cases q : K.lookup (cmA K d.at_.1 m) with
  | none => rw [q] at c2; cases c2
  | some o =>
    obtain ⟨oc, od, dt, osl⟩ := o
    rw [q] at c2 e
    cases dt with
    | func fd =>
      obtain ⟨h1, h2⟩ := He.ba c2
      obtain ⟨h3, h4⟩ := He.ba h2
      have e2 : (fd.name, fd.qualname, fd.params, fd.body, fd.scope, fd.globals, fd.closure, fd.builtins) = (d.name, d.qual, d.params, FuncBody.stmts d.body, d.scope, mainGlobals, [], builtinsNs) := Option.some.inj e
      simp only [Prod.mk.injEq] at e2
      obtain ⟨x1, x2, x3, x4, x5, x6, x7, x8⟩ := e2
      refine ⟨fd, ⟨oc, od, fd.defaults, fd.kwdefaults, fd.doc, fd.pyModule, fd.annotations, fd.code, fd.closureTuple, osl, ?_, q, h1, He.dflB_ok h3, He.kwdB_ok h4⟩, kp⟩
      obtain ⟨f1, f2, f3, f4, f5, f6, f7, f8, f9, f10, f11, f12, f13, f14, f15⟩ := fd
      simp only at x1 x2 x3 x4 x5 x6 x7 x8
      subst x1 x2 x3 x4 x5 x6 x7 x8
      rfl
    | _ => cases c2
theorem ht_of (KX : K.In base) (G : base.Ns mainGlobals mg) (c : SaysY w h K) (TB : LamX.TabB base mg (cJ K) (pJ K)) : Ht K mg base (caOf K) := by
  have D := c.t.d
  have hex := c.more
  unfold ex at hex
  obtain ⟨x1, hex⟩ := He.ba hex
  obtain ⟨x2, hex⟩ := He.ba hex
  obtain ⟨x3, hex⟩ := He.ba hex
  obtain ⟨x4, hex⟩ := He.ba hex
  obtain ⟨x5, hex⟩ := He.ba hex
  obtain ⟨x6, hex⟩ := He.ba hex
  obtain ⟨x7, hex⟩ := He.ba hex
  obtain ⟨x8, hex⟩ := He.ba hex
  obtain ⟨x9, hex⟩ := He.ba hex
  obtain ⟨x10, hex⟩ := He.ba hex
  obtain ⟨x11, x12⟩ := He.ba hex
  have mt : ∀ m ∈ meths, Meth K (He.ga K "Ranges") m (mtA K m) := fun m hm => He.meth_ok (D.facts (fa_meth hm))
  refine { glo := fun x hx => He.glo_ok KX G (D.facts (fa_glo hx)), free := fun x hx => He.free_ok KX G (D.facts (fa_free hx)), kps := fun x hx => He.keep_ok (D.facts (fa_keep hx)), dfs := fun d hd => ?_, dcs := fun d hd m hm => ?_, c0 := rfl, kc := ?_, mkr := ?_, na := He.noat_ok (D.facts (fa_more (by simp))), fds := fun m hm => (mt m hm).at_, ffs := fun m hm => (mt m hm).fn, mts := mt, sf := x5, eq := ?_, kit := fun a ha b hb => ?_, cr := ⟨x10, He.eqO_ok x11⟩, cmx := fun m hm => ?_, tb := TB, tab := rfl }
  · obtain ⟨fd, F⟩ := D.defs hd
    obtain ⟨e1, e2⟩ := He.ba (List.all_eq_true.mp plain_defs d hd)
    refine ⟨fd, ?_⟩
    have z1 : d.dvs K = [] := by unfold He.DefD.dvs; rw [List.isEmpty_iff.mp e1]; rfl
    have z2 : d.kws K = [] := by unfold He.DefD.kws; rw [List.isEmpty_iff.mp e2]; rfl
    rw [z1, z2] at F
    exact F
  · exact funC hm (List.map_inj_left.mp c.c2 d hd) (List.all_eq_true.mp c.c1 d hd)
  · exact ⟨He.cls_ok (D.facts (fa_more (by simp))), He.eqO_ok x1, He.eqO_ok x2, of_decide_eq_true x3, of_decide_eq_true x4⟩
  · exact He.mkr_ok (D.facts (fa_more (by simp)))
  · refine ⟨(mt "__eq__" (by simp [meths])).at_, (mt "__eq__" (by simp [meths])).fn, He.eqO_ok x6, of_decide_eq_true x4, fun t ht => List.all_eq_true.mp x7 t ht, fun t ht => of_decide_eq_true (List.all_eq_true.mp x8 t ht)⟩
  · exact of_decide_eq_true (List.all_eq_true.mp (List.all_eq_true.mp x9 a ha) b hb)
  · have z := List.all_eq_true.mp x12 m hm
    unfold cmB at z
    split at z
    · rename_i b p C' q
      obtain ⟨z1, z2⟩ := He.ba z
      obtain ⟨z3, z4⟩ := He.ba z2
      obtain ⟨z5, z6⟩ := He.ba z4
      have b1 := of_decide_eq_true z1
      have b2 := of_decide_eq_true z3
      subst b1 b2
      split at z5
      · rename_i g rest q2
        have b3 := of_decide_eq_true z5
        exact ⟨p, q, ⟨rest, b3 ▸ q2⟩, z6⟩
      · cases z5
    · cases z
end
end K0

set_option Elab.async false
set_option linter.all false
set_option maxRecDepth 100000
set_option maxHeartbeats 4000000
/-! K0Z: the end. -/
namespace K0
open PySem PySem.Spec PyProof.Rows L2
theorem rps_ints {K : PySem.W.Frag} {CA : DL.Ly} {F : Addr → Prop} {μ : List Addr} {H : Hp} : ∀ ns : List Int, DL.Rps K CA F μ H (ns.map DL.D.int) (ns.map V.int)
  | [] => trivial
  | _ :: ns => ⟨rfl, rps_ints ns⟩
theorem sp_ok {K : PySem.W.Frag} {H : Hp} {a : Addr} {ns : List Int} (hn : ns.length ≤ 63) (hH : H (pJ K) = some (.tbl #[])) (hS : SqL K H a (ns.map V.int)) :
    DL.spM K (caOf K) 1 (g_law (caOf K)) [.ref a] H (fun v _ => v = .bl true) fun _ _ _ => False := by
  have tb : LamX.Tabs (caOf K).tb H := fun p hp => by
    have e : p = (pJ K, ("joined" : PySem.Str) ++ ".<locals>." ++ "<lambda>") := by simpa [caOf] using hp
    subst e
    exact LamX.TabS.nil hH
  have fin : ∀ F : Addr → Prop, DL.Sx K (caOf K) F [] H [] → DL.RolAt K F H a (ns.map V.int) → DL.spM K (caOf K) 1 (g_law (caOf K)) [.ref a] H (fun v _ => v = .bl true) fun _ _ _ => False := fun F sx ra => by
    refine ⟨[.rol (ns.map DL.D.int)], [], F, [], ⟨⟨a, _, rfl, ra, rps_ints ns⟩, trivial⟩, sx, ?_⟩
    unfold DL.ar
    have e1 : ([DL.D.rol (ns.map DL.D.int)] : List DL.D).length = 1 := rfl
    rw [if_pos e1, law_true _ ns hn]
    exact fun v F' H' e s r => r
  have none_ : DL.Sx K (caOf K) (fun _ => False) [] H [] := ⟨rfl, fun n d a h _ => by simp at h, List.nodup_nil, fun a h => by simp at h, fun a h => h.elim, fun a o h => h.elim, tb⟩
  rcases hS with h | ⟨o, q⟩
  · have at_ : ∃ u, H a = some u ∧ DL.NT u := by
      rcases h with h | ⟨o, h⟩
      · exact ⟨_, h, DL.nt_lst⟩
      · exact ⟨_, h, fun ps z => by cases z⟩
    refine fin (fun b => b = a) ⟨rfl, fun n d a h _ => by simp at h, List.nodup_nil, fun a h => by simp at h, fun b hb => ?_, fun b o hb ho => ?_, tb⟩ (.inl ⟨rfl, h⟩)
    · obtain ⟨u, hu, _⟩ := at_
      exact ⟨u, hb ▸ hu⟩
    · obtain ⟨u, hu, n⟩ := at_
      rw [hb, hu] at ho
      cases ho
      exact n
  · exact fin (fun _ => False) none_ (.inr fun H' => .inr ⟨o, q⟩)
theorem law_fd {w : World} {h : Heap} {K : PySem.W.Frag} (c : SaysY w h K) : ∃ fd, FunD K "law" "law" (defArgs s_law) (defBody s_law) (defScope s_law) [] [] (He.fAd K ("law", none)) fd := by
  have hd : df ("law", none) "law" "law" s_law ∈ defs := List.mem_of_getElem? (i := defs.length - 1) rfl
  obtain ⟨fd, F⟩ := c.t.d.defs hd
  exact ⟨fd, F⟩
end K0
open PySem PySem.W PySem.Calls PyProof.Rows
theorem PySem.Challenge.cw_speakanew_k00_sets_of_stretches_and_sets_holds : PySem.Challenge.rw_speakanew_k00_sets_of_stretches_and_sets.Holds := by
  w_on; o_law
  refine HandSHeadRun.head_any (r := K0.R) (q := view K0.R.prog [33]) (H := K0.hk) (ob := K0.ob) (M := 3000) (loose := K0.names) (d := HandSHeadRun.topDef K0.R.prog 33) (kwd := []) K0.ob_eq
    (by kernel_rfl) (fun s => by kernel_rfl) K0.run (by kernel_rfl) (by kernel_rfl) (by kernel_rfl) (by rfl) (by first | assumption | decide +kernel) (by decide +kernel) ⟨rfl, rfl, rfl, rfl, rfl, by decide +kernel⟩ ?hw ?hc
  case hw => w_witness2
  case hc =>
    refine LamX.walk_ofTsE (l := PySem.Challenge.rw_speakanew_k00_sets_of_stretches_and_sets) (n := 63) (k := 8) (x := "script") (CX := fun w => L2.CX PySem.Challenge.pw_speakanew_k00_sets_of_stretches_and_sets w) rfl (by decide) (by kernel_rfl) ⟨rfl, by decide, by decide⟩ ?F ?C
    case C => exact fun w H s e s' ⟨a, B, H', cls, d, ea, fl, hok, ub, na, os, ag, he⟩ => he
    case F =>
      intro w mg fa h ⟨K, KX, c⟩ G hmg0
      have hmg : mg ("law" : PySem.Str) = some (.ref fa) := by
        have e : (HandSHeadRun.topDef K0.R.prog 33).name = ("law" : PySem.Str) := by kernel_rfl
        rw [← e]
        exact hmg0
      obtain ⟨fd, F⟩ := K0.law_fd c
      have e := hmg.symm.trans (He.glo_ok KX G (c.t.d.facts (K0.fa_glo (x := "law") (by simp [K0.gn]))))
      cases e
      refine ⟨K, KX, fd, [(K0.cJ K, K0.pJ K)], DL.spM K (K0.caOf K) 1 (K0.g_law (K0.caOf K)), fun p hp => ?_, fun p hp => ?_, fun p hp => ?_, fun s u => L2.FunD.bindsA (ps := ["script"]) F (fun _ _ _ _ _ _ us hl => match us, hl with | [_], _ => rfl) s [u] rfl,
        fun H a ns hn hb hH hS => K0.sp_ok hn (hH _ (List.mem_singleton.mpr rfl)) hS, fun base KB GB TB => K0.O_law (K0.ht_of KB GB c (TB _ (List.mem_singleton.mpr rfl))) F⟩
      · obtain rfl : p = (K0.cJ K, K0.pJ K) := List.mem_singleton.mp hp
        exact c.empty
      · obtain rfl : p = (K0.cJ K, K0.pJ K) := List.mem_singleton.mp hp
        exact c.out
      · obtain rfl : p = (K0.cJ K, K0.pJ K) := List.mem_singleton.mp hp
        exact PySem.W.codeHd_of_K KX c.hd

