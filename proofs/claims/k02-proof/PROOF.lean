import PyProof.Rows.All
import Wide.All
import OpenK.AllK
import Wide.FinOn
import HandS.ForMost
import HandS.Exc
import HandS.ExcOwn
import HandS.WordsExc
import HandS.CallSlots
import HandS.Lambda
import HandS.Star
import HandS.Defaults
import HandS.Wide
import HandS.TupAny
import HandS.IsInst
import HandS.Flow
import HandS.Small
import HandS.ClsMeth
import HandS.SlotsOwn
import HandS.OwnEq
import PyProof.EqKinds
import KE.SortUse
import KE.GoesEnum
import KE.GoesMore
import HandS.Style
import KE.KOpsOwn
import KE.KCallOwn
import HandS.SetTxt0
import HandS.SetFor
import HandS.Strs
import HandS.More
import HandS.DictComp
import HandS.TryOnly
import HandS.Iter
import HandS.RaiseMore
import HandS.HeadWalk
import HandS.HeadHook2
import HandS.HeadHook4
import HandS.Codes
import HandS.Head0
import HandS.Head1
import HandS.Head2
import HandS.HeadEnd
import HandS.HeadHook1
import HandS.HeadHook3
import PySem.Challenge.RW_speakanew_k02_filters_tell_three_truths
import KE.DataCmp
set_option Elab.async false
set_option linter.all false
set_option maxRecDepth 100000
set_option maxHeartbeats 4000000
/-! DL0: data, what stands for it in the abstract heap, outcomes. -/
namespace DL
open PySem PySem.Spec L2

/-- data: what a value is, objects as snapshots; a box is a thing that may change -/
inductive D where
  | non | bl (b : Bool) | int (i : Int) | str (x : Str)
  | tup (ds : List D) | lst (ds : List D)
  | ins (c : Nat) (ns : List Str) (ds : List D)
  | dk (ks : List Key) (ds : List D)
  | dt (ks : List (List Key)) (ds : List D)
  | box (n : Nat) | adr (a : Addr) | ty (n : String)
  | rol (ds : List D)
instance : Inhabited D := ⟨.non⟩

/-- where classes stand, and tables of code objects -/
structure Ly where
  ca : Nat → Addr
  tb : List (Addr × Str)
instance : CoeFun Ly (fun _ => Nat → Addr) := ⟨Ly.ca⟩
/-- no table -/
def NT (o : HO) : Prop := ∀ ps, o ≠ .tbl ps
theorem nt_lst {xs : List V} : NT (.lst xs) := fun _ h => by cases h
theorem nt_tup {xs : List V} : NT (.tup xs) := fun _ h => by cases h
theorem nt_ins {C dx : Addr} {fs : List (Str × V)} : NT (.ins C dx fs) := fun _ h => by cases h
theorem nt_dK {kvs : List (Key × V)} : NT (.dK kvs) := fun _ h => by cases h
theorem nt_dT {kvs : List (List Key × V)} : NT (.dT kvs) := fun _ h => by cases h
theorem Tabs.keep {T : List (Addr × Str)} {H H' : Hp} (t : LamX.Tabs T H) (h : ∀ b o, H b = some o → (∃ ps, o = .tbl ps) ∨ (∃ c q, o = LamX.CodeO c q) → H' b = some o) : LamX.Tabs T H' := fun p hp => by
  obtain ⟨ps, h1, h2, h3⟩ := t p hp
  refine ⟨ps, h _ _ h1 (.inl ⟨_, rfl⟩), h2, fun pos cv hc => ?_⟩
  obtain ⟨c, e1, e2⟩ := h3 pos cv hc
  exact ⟨c, e1, h _ _ e2 (.inr ⟨_, _, rfl⟩)⟩
/-- an expression's result: a value, or an object just made that nothing else knows -/
inductive R where
  | val (d : D) | new (d : D)
def R.d : R → D
  | .val d => d
  | .new d => d

inductive Out (α : Type) where
  | ok (r : α) (bx : List D)
  | exn (c : Nat) (ns : List Str) (ds : List D) (bx : List D)
  | stk
def Out.bind {α β : Type} (o : Out α) (f : α → List D → Out β) : Out β := match o with
  | .ok r bx => f r bx
  | .exn c ns ds bx => .exn c ns ds bx
  | .stk => .stk
@[simp] theorem Out.bind_ok {α β : Type} {r : α} {bx : List D} {f : α → List D → Out β} : (Out.ok r bx).bind f = f r bx := rfl
@[simp] theorem Out.bind_exn {α β : Type} {c ns ds} {bx : List D} {f : α → List D → Out β} : (Out.exn c ns ds bx : Out α).bind f = .exn c ns ds bx := rfl
@[simp] theorem Out.bind_stk {α β : Type} {f : α → List D → Out β} : (Out.stk : Out α).bind f = .stk := rfl
def Out.map {α β : Type} (f : α → β) (o : Out α) : Out β := o.bind fun r bx => .ok (f r) bx
@[simp] theorem Out.map_ok {α β : Type} {r : α} {bx : List D} {f : α → β} : (Out.ok r bx).map f = .ok (f r) bx := rfl

section
variable (K : PySem.W.Frag) (CA : Ly)
def TupAt (F : Addr → Prop) (H : Hp) (a : Addr) (vs : List V) : Prop := (F a ∧ H a = some (.tup vs)) ∨ ∀ H', SqT K H' a vs
def LstAt (F : Addr → Prop) (H : Hp) (a : Addr) (vs : List V) : Prop := F a ∧ H a = some (.lst vs)
/-- a list that is only read (the script) -/
def RolAt (F : Addr → Prop) (H : Hp) (a : Addr) (vs : List V) : Prop := (F a ∧ Rd H a (.lst vs)) ∨ ∀ H', SqL K H' a vs
mutual
def Rp (F : Addr → Prop) (μ : List Addr) (H : Hp) : D → V → Prop
  | .non, v => v = .non
  | .bl b, v => v = .bl b
  | .int i, v => v = .int i
  | .str x, v => v = .str x
  | .adr a, v => v = .ref a
  | .ty n, v => v = .ty n
  | .box n, v => ∃ a, v = .ref a ∧ μ[n]? = some a
  | .tup ds, v => ∃ a vs, v = .ref a ∧ TupAt K F H a vs ∧ Rps F μ H ds vs
  | .lst ds, v => ∃ a vs, v = .ref a ∧ LstAt F H a vs ∧ Rps F μ H ds vs
  | .rol ds, v => ∃ a vs, v = .ref a ∧ RolAt K F H a vs ∧ Rps F μ H ds vs
  | .ins c ns ds, v => ∃ a dx vs, v = .ref a ∧ F a ∧ H a = some (.ins (CA c) dx (ns.zip vs)) ∧ ns.length = ds.length ∧ Rps F μ H ds vs
  | .dk ks ds, v => ∃ a vs, v = .ref a ∧ F a ∧ H a = some (.dK (ks.zip vs)) ∧ ks.length = ds.length ∧ Rps F μ H ds vs
  | .dt ks ds, v => ∃ a vs, v = .ref a ∧ F a ∧ H a = some (.dT (ks.zip vs)) ∧ ks.length = ds.length ∧ Rps F μ H ds vs
def Rps (F : Addr → Prop) (μ : List Addr) (H : Hp) : List D → List V → Prop
  | [], [] => True
  | d :: ds, v :: vs => Rp F μ H d v ∧ Rps F μ H ds vs
  | [], _ :: _ => False
  | _ :: _, [] => False
end
/-- what stands at a box, or is just made -/
def At (F : Addr → Prop) (μ : List Addr) (H : Hp) (d : D) (a : Addr) : Prop := match d with
  | .lst ds => ∃ vs, H a = some (.lst vs) ∧ Rps K CA F μ H ds vs
  | .ins c ns ds => ∃ dx vs, H a = some (.ins (CA c) dx (ns.zip vs)) ∧ ns.length = ds.length ∧ Rps K CA F μ H ds vs
  | .dk ks ds => ∃ vs, H a = some (.dK (ks.zip vs)) ∧ ks.length = ds.length ∧ Rps K CA F μ H ds vs
  | .dt ks ds => ∃ vs, H a = some (.dT (ks.zip vs)) ∧ ks.length = ds.length ∧ Rps K CA F μ H ds vs
  | _ => False
/-- the boxes -/
structure Sx (F : Addr → Prop) (μ : List Addr) (H : Hp) (bx : List D) : Prop where
  len : bx.length = μ.length
  at_ : ∀ (n : Nat) (d : D) (a : Addr), bx[n]? = some d → μ[n]? = some a → At K CA F μ H d a
  nd : μ.Nodup
  dj : ∀ a ∈ μ, ¬ F a
  tr : ∀ a, F a → ∃ o, H a = some o
  ft : ∀ a o, F a → H a = some o → NT o
  tb : LamX.Tabs CA.tb H
/-- the slots -/
structure En (F : Addr → Prop) (μ : List Addr) (H : Hp) (ρ : List (Option D)) (σ : St) : Prop where
  len : ρ.length = σ.length
  at_ : ∀ (i : Nat) (d : D), ρ[i]? = some (some d) → ∃ v, σ[i]? = some (some v) ∧ Rp K CA F μ H d v
end
/-- nothing stands there, or a table -/
def Vac (H : Hp) (a : Addr) : Prop := ∀ o, H a = some o → ¬ NT o
theorem Vac.of {H : Hp} {a : Addr} (h : H a = none) : Vac H a := fun o q => by rw [h] at q; cases q
/-- what changes: boxes alone; what is frozen anew was not there -/
structure Ext (F : Addr → Prop) (μ : List Addr) (H : Hp) (F' : Addr → Prop) (H' : Hp) : Prop where
  up : ∀ a, F a → F' a
  fr : ∀ a, F' a → F a ∨ (Vac H a ∧ a ∉ μ)
  keep : ∀ a o, H a = some o → a ∉ μ → NT o → H' a = some o
/-- all stays -/
theorem Ext.all {F F' : Addr → Prop} {μ : List Addr} {H H' : Hp} (up : ∀ a, F a → F' a) (fr : ∀ a, F' a → F a ∨ (H a = none ∧ a ∉ μ)) (k : ∀ a o, H a = some o → a ∉ μ → H' a = some o) : Ext F μ H F' H' :=
  ⟨up, fun a h => (fr a h).imp id fun z => ⟨.of z.1, z.2⟩, fun a o h m _ => k a o h m⟩
theorem nt_or (o : HO) : (∃ ps, o = .tbl ps) ∨ NT o := by
  cases o <;> first | exact .inl ⟨_, rfl⟩ | exact .inr fun _ h => by cases h
section
variable {K : PySem.W.Frag} {CA : Ly} {F F' F'' : Addr → Prop} {μ μ' : List Addr} {H H' H'' : Hp} {bx : List D} {ρ : List (Option D)} {σ : St}
theorem Ext.refl : Ext F μ H F H := .all (fun _ h => h) (fun _ h => .inl h) fun _ _ h _ => h
theorem Ext.back (e : Ext F μ H F' H') {a : Addr} (h : Vac H' a) (hm : a ∉ μ) : Vac H a := fun o q z => h o (e.keep a o q hm z) z
theorem Ext.trans (e : Ext F μ H F' H') (e' : Ext F' μ H' F'' H'') : Ext F μ H F'' H'' :=
  ⟨fun a h => e'.up a (e.up a h), fun a h => (e'.fr a h).elim (fun z => e.fr a z) fun z => .inr ⟨e.back z.1 z.2, z.2⟩, fun a o h hm z => e'.keep a o (e.keep a o h hm z) hm z⟩
theorem At.there {d : D} {a : Addr} (h : At K CA F μ H d a) : ∃ o, H a = some o := by
  cases d with
  | lst ds => obtain ⟨_, e, _⟩ := h; exact ⟨_, e⟩
  | ins c ns ds => obtain ⟨_, _, e, _⟩ := h; exact ⟨_, e⟩
  | dk ks ds => obtain ⟨_, e, _⟩ := h; exact ⟨_, e⟩
  | dt ks ds => obtain ⟨_, e, _⟩ := h; exact ⟨_, e⟩
  | _ => exact h.elim
theorem At.nt {d : D} {a : Addr} (h : At K CA F μ H d a) : ∀ o, H a = some o → NT o := by
  intro o ho
  cases d with
  | lst ds => obtain ⟨_, e, _⟩ := h; rw [e] at ho; cases ho; exact nt_lst
  | ins c ns ds => obtain ⟨_, _, e, _⟩ := h; rw [e] at ho; cases ho; exact nt_ins
  | dk ks ds => obtain ⟨_, e, _⟩ := h; rw [e] at ho; cases ho; exact nt_dK
  | dt ks ds => obtain ⟨_, e, _⟩ := h; rw [e] at ho; cases ho; exact nt_dT
  | _ => exact h.elim
/-- what stands there is no code object and no table -/
theorem At.plain {d : D} {a : Addr} (h : At K CA F μ H d a) : ∀ o, H a = some o → ¬ ((∃ ps, o = .tbl ps) ∨ (∃ c q, o = LamX.CodeO c q)) := by
  intro o ho
  have no : ∀ (u : HO), NT u → (∀ f, u ≠ .ext f) → o = u → ¬ ((∃ ps, o = .tbl ps) ∨ (∃ c q, o = LamX.CodeO c q)) := fun u h1 h2 e z => by
    subst e
    rcases z with ⟨ps, z⟩ | ⟨c, q, z⟩
    · exact h1 ps z
    · exact h2 _ z
  cases d with
  | lst ds => obtain ⟨_, e, _⟩ := h; rw [e] at ho; cases ho; exact no _ nt_lst (fun f z => by cases z) rfl
  | ins c ns ds => obtain ⟨_, _, e, _⟩ := h; rw [e] at ho; cases ho; exact no _ nt_ins (fun f z => by cases z) rfl
  | dk ks ds => obtain ⟨_, e, _⟩ := h; rw [e] at ho; cases ho; exact no _ nt_dK (fun f z => by cases z) rfl
  | dt ks ds => obtain ⟨_, e, _⟩ := h; rw [e] at ho; cases ho; exact no _ nt_dT (fun f z => by cases z) rfl
  | _ => exact h.elim
theorem TupAt.sq {a : Addr} {vs : List V} (h : TupAt K F H a vs) : SqT K H a vs := h.elim (fun z => .inl (.inl z.2)) fun z => z H
theorem LstAt.sq {a : Addr} {vs : List V} (h : LstAt F H a vs) : SqL K H a vs := .inl (.inl h.2)
theorem RolAt.sq {a : Addr} {vs : List V} (h : RolAt K F H a vs) : SqL K H a vs := h.elim (fun z => .inl z.2) fun z => z H
/-- frozen things stay -/
def Stay (F : Addr → Prop) (H H' : Hp) : Prop := ∀ a o, F a → H a = some o → H' a = some o
theorem TupAt.mono {a : Addr} {vs : List V} (hF : ∀ a, F a → F' a) (hs : Stay F H H') (h : TupAt K F H a vs) : TupAt K F' H' a vs :=
  h.elim (fun z => .inl ⟨hF _ z.1, hs _ _ z.1 z.2⟩) .inr
theorem LstAt.mono {a : Addr} {vs : List V} (hF : ∀ a, F a → F' a) (hs : Stay F H H') (h : LstAt F H a vs) : LstAt F' H' a vs := ⟨hF _ h.1, hs _ _ h.1 h.2⟩
theorem RolAt.mono {a : Addr} {vs : List V} (hF : ∀ a, F a → F' a) (hs : Stay F H H') (h : RolAt K F H a vs) : RolAt K F' H' a vs :=
  h.elim (fun z => .inl ⟨hF _ z.1, z.2.elim (fun e => .inl (hs _ _ z.1 e)) fun ⟨o, e⟩ => .inr ⟨o, hs _ _ z.1 e⟩⟩) .inr
mutual
theorem Rp.mono (hF : ∀ a, F a → F' a) (hm : ∀ (n : Nat) (a : Addr), μ[n]? = some a → μ'[n]? = some a) (hs : Stay F H H') : ∀ {d : D} {v : V}, Rp K CA F μ H d v → Rp K CA F' μ' H' d v
  | .non, _, h => h
  | .bl _, _, h => h
  | .int _, _, h => h
  | .str _, _, h => h
  | .adr _, _, h => h
  | .ty _, _, h => h
  | .box _, _, h => let ⟨a, e, q⟩ := h; ⟨a, e, hm _ _ q⟩
  | .tup _, _, h => let ⟨a, vs, e, t, r⟩ := h; ⟨a, vs, e, t.mono hF hs, Rps.mono hF hm hs r⟩
  | .lst _, _, h => let ⟨a, vs, e, t, r⟩ := h; ⟨a, vs, e, t.mono hF hs, Rps.mono hF hm hs r⟩
  | .rol _, _, h => let ⟨a, vs, e, t, r⟩ := h; ⟨a, vs, e, t.mono hF hs, Rps.mono hF hm hs r⟩
  | .ins _ _ _, _, h => let ⟨a, dx, vs, e, f, t, l, r⟩ := h; ⟨a, dx, vs, e, hF _ f, hs _ _ f t, l, Rps.mono hF hm hs r⟩
  | .dk _ _, _, h => let ⟨a, vs, e, f, t, l, r⟩ := h; ⟨a, vs, e, hF _ f, hs _ _ f t, l, Rps.mono hF hm hs r⟩
  | .dt _ _, _, h => let ⟨a, vs, e, f, t, l, r⟩ := h; ⟨a, vs, e, hF _ f, hs _ _ f t, l, Rps.mono hF hm hs r⟩
theorem Rps.mono (hF : ∀ a, F a → F' a) (hm : ∀ (n : Nat) (a : Addr), μ[n]? = some a → μ'[n]? = some a) (hs : Stay F H H') : ∀ {ds : List D} {vs : List V}, Rps K CA F μ H ds vs → Rps K CA F' μ' H' ds vs
  | [], [], _ => trivial
  | _ :: _, _ :: _, h => ⟨Rp.mono hF hm hs h.1, Rps.mono hF hm hs h.2⟩
  | [], _ :: _, h => h.elim
  | _ :: _, [], h => h.elim
end
theorem Rps.length : ∀ {ds : List D} {vs : List V}, Rps K CA F μ H ds vs → ds.length = vs.length
  | [], [], _ => rfl
  | _ :: _, _ :: _, h => congrArg Nat.succ (Rps.length h.2)
  | [], _ :: _, h => h.elim
  | _ :: _, [], h => h.elim
theorem Rps.get : ∀ {ds : List D} {vs : List V} {i : Nat} {d : D}, Rps K CA F μ H ds vs → ds[i]? = some d → ∃ v, vs[i]? = some v ∧ Rp K CA F μ H d v
  | _ :: _, _ :: _, 0, _, h, e => by cases e; exact ⟨_, rfl, h.1⟩
  | _ :: _, _ :: _, i + 1, _, h, e => Rps.get (i := i) h.2 e
  | [], _, _, _, _, e => by cases e
  | _ :: _, [], _, _, h, _ => h.elim
theorem Rps.append : ∀ {ds ds' : List D} {vs vs' : List V}, Rps K CA F μ H ds vs → Rps K CA F μ H ds' vs' → Rps K CA F μ H (ds ++ ds') (vs ++ vs')
  | [], _, [], _, _, h' => h'
  | _ :: _, _, _ :: _, _, h, h' => ⟨h.1, Rps.append h.2 h'⟩
  | [], _, _ :: _, _, h, _ => h.elim
  | _ :: _, _, [], _, h, _ => h.elim
theorem Rps.take : ∀ {ds : List D} {vs : List V} (n : Nat), Rps K CA F μ H ds vs → Rps K CA F μ H (ds.take n) (vs.take n)
  | _, _, 0, _ => trivial
  | [], [], _ + 1, _ => trivial
  | _ :: _, _ :: _, n + 1, h => ⟨h.1, Rps.take n h.2⟩
  | [], _ :: _, _ + 1, h => h.elim
  | _ :: _, [], _ + 1, h => h.elim
theorem Rps.drop : ∀ {ds : List D} {vs : List V} (n : Nat), Rps K CA F μ H ds vs → Rps K CA F μ H (ds.drop n) (vs.drop n)
  | _, _, 0, h => h
  | [], [], _ + 1, _ => trivial
  | _ :: _, _ :: _, n + 1, h => Rps.drop n h.2
  | [], _ :: _, _ + 1, h => h.elim
  | _ :: _, [], _ + 1, h => h.elim
theorem Rps.set : ∀ {ds : List D} {vs : List V} (n : Nat) {d : D} {v : V}, Rps K CA F μ H ds vs → Rp K CA F μ H d v → Rps K CA F μ H (ds.set n d) (vs.set n v)
  | [], [], _, _, _, _, _ => trivial
  | _ :: _, _ :: _, 0, _, _, h, r => ⟨r, h.2⟩
  | _ :: _, _ :: _, n + 1, _, _, h, r => ⟨h.1, Rps.set n h.2 r⟩
  | [], _ :: _, _, _, _, h, _ => h.elim
  | _ :: _, [], _, _, _, h, _ => h.elim
theorem Rps.rev : ∀ {ds : List D} {vs : List V}, Rps K CA F μ H ds vs → Rps K CA F μ H ds.reverse vs.reverse
  | [], [], _ => trivial
  | d :: ds, v :: vs, h => by
    rw [List.reverse_cons, List.reverse_cons]
    exact Rps.append (Rps.rev h.2) ⟨h.1, trivial⟩
  | [], _ :: _, h => h.elim
  | _ :: _, [], h => h.elim
theorem Rps.last : ∀ {ds : List D} {vs : List V}, Rps K CA F μ H ds vs → Rps K CA F μ H ds.dropLast vs.dropLast := fun {ds vs} h => by
  rw [List.dropLast_eq_take, List.dropLast_eq_take, h.length]
  exact h.take _
theorem Sx.stay (s : Sx K CA F μ H bx) (e : Ext F μ H F' H') : Stay F H H' := fun a o f h => e.keep a o h (fun z => s.dj a z f) (s.ft a o f h)
theorem Rp.ext {d : D} {v : V} (s : Sx K CA F μ H bx) (e : Ext F μ H F' H') (h : Rp K CA F μ H d v) : Rp K CA F' μ H' d v := h.mono e.up (fun _ _ q => q) (s.stay e)
theorem Rps.ext {ds : List D} {vs : List V} (s : Sx K CA F μ H bx) (e : Ext F μ H F' H') (h : Rps K CA F μ H ds vs) : Rps K CA F' μ H' ds vs := h.mono e.up (fun _ _ q => q) (s.stay e)
theorem En.ext (s : Sx K CA F μ H bx) (e : Ext F μ H F' H') (h : En K CA F μ H ρ σ) : En K CA F' μ H' ρ σ :=
  ⟨h.len, fun i d q => let ⟨v, q1, q2⟩ := h.at_ i d q; ⟨v, q1, q2.ext s e⟩⟩
/-- the content of a box, where the box itself is kept -/
theorem At.mono {d : D} {a : Addr} (hF : ∀ a, F a → F' a) (hm : ∀ (n : Nat) (a : Addr), μ[n]? = some a → μ'[n]? = some a) (hs : Stay F H H') (ha : ∀ o, H a = some o → H' a = some o) (h : At K CA F μ H d a) : At K CA F' μ' H' d a := by
  cases d with
  | lst ds => obtain ⟨vs, e, r⟩ := h; exact ⟨vs, ha _ e, r.mono hF hm hs⟩
  | ins c ns ds => obtain ⟨dx, vs, e, l, r⟩ := h; exact ⟨dx, vs, ha _ e, l, r.mono hF hm hs⟩
  | dk ks ds => obtain ⟨vs, e, l, r⟩ := h; exact ⟨vs, ha _ e, l, r.mono hF hm hs⟩
  | dt ks ds => obtain ⟨vs, e, l, r⟩ := h; exact ⟨vs, ha _ e, l, r.mono hF hm hs⟩
  | _ => exact h.elim
/-- nothing of what was tracked changes: boxes stay -/
theorem Sx.same (s : Sx K CA F μ H bx) (hF : ∀ a, F a → F' a) (hj : ∀ a ∈ μ, ¬ F' a) (hT : ∀ a, F' a → ∃ o, H' a = some o ∧ NT o) (ha : ∀ a o, H a = some o → H' a = some o) : Sx K CA F' μ H' bx :=
  ⟨s.len, fun n d a h1 h2 => At.mono (h := s.at_ n d a h1 h2) (hF := hF) (hm := fun _ _ q => q) (hs := fun b o _ e => ha b o e) (ha := fun o e => ha a o e), s.nd, hj, fun a h => let ⟨o, e, _⟩ := hT a h; ⟨o, e⟩, fun a o f h => by
    obtain ⟨o', e, z⟩ := hT a f
    rw [h] at e; cases e; exact z, s.tb.ext ha⟩
/-- a new frozen object at p -/
theorem Ext.new {p : Addr} {o : HO} (s : Sx K CA F μ H bx) (hp : H p = none) : Ext F μ H (fun a => F a ∨ a = p) (upd H p o) :=
  .all (fun _ h => .inl h) (fun a h => h.elim .inl fun e => .inr ⟨e ▸ hp, fun hm => by
    obtain ⟨n, hn, e2⟩ := List.mem_iff_getElem.mp hm
    have h1 : n < bx.length := s.len ▸ hn
    obtain ⟨u, hu⟩ := (s.at_ n _ a (List.getElem?_eq_getElem h1) (by rw [List.getElem?_eq_getElem hn, e2])).there
    rw [e, hp] at hu; cases hu⟩) fun a u h hm => by rw [upd_ne (ne_of_none h hp)]; exact h
/-- .. not frozen -/
theorem Ext.tmp {p : Addr} {o : HO} (hp : H p = none) : Ext F μ H F (upd H p o) := .all (fun _ h => h) (fun a h => .inl h) fun a u h hm => by rw [upd_ne (ne_of_none h hp)]; exact h
theorem Sx.notIn (s : Sx K CA F μ H bx) {p : Addr} (hp : H p = none) : p ∉ μ := fun hm => by
  obtain ⟨n, hn, e2⟩ := List.mem_iff_getElem.mp hm
  have h1 : n < bx.length := s.len ▸ hn
  obtain ⟨u, hu⟩ := (s.at_ n _ p (List.getElem?_eq_getElem h1) (by rw [List.getElem?_eq_getElem hn, e2])).there
  rw [hp] at hu; cases hu
theorem Sx.new {p : Addr} {o : HO} (s : Sx K CA F μ H bx) (hp : H p = none) (ho : NT o := by first | exact nt_tup | exact nt_lst | exact nt_ins | exact nt_dK | exact nt_dT) : Sx K CA (fun a => F a ∨ a = p) μ (upd H p o) bx :=
  s.same (fun _ h => .inl h) (fun a hm z => z.elim (s.dj a hm) fun e => s.notIn (e ▸ hp) hm) (fun a h => by
    rcases h with h | h
    · obtain ⟨u, q⟩ := s.tr a h; exact ⟨u, by rw [upd_ne (ne_of_none q hp)]; exact q, s.ft a u h q⟩
    · exact ⟨o, by rw [h, upd_same], ho⟩) fun a u h => by rw [upd_ne (ne_of_none h hp)]; exact h
theorem Sx.tmp {p : Addr} {o : HO} (s : Sx K CA F μ H bx) (hp : H p = none) : Sx K CA F μ (upd H p o) bx :=
  s.same (fun _ h => h) s.dj (fun a h => by obtain ⟨u, q⟩ := s.tr a h; exact ⟨u, by rw [upd_ne (ne_of_none q hp)]; exact q, s.ft a u h q⟩) fun a u h => by rw [upd_ne (ne_of_none h hp)]; exact h
theorem Sx.notF (s : Sx K CA F μ H bx) {p : Addr} (hp : H p = none) : ¬ F p := fun z => by
  obtain ⟨u, q⟩ := s.tr p z
  rw [hp] at q; cases q
end
end DL

set_option Elab.async false
set_option linter.all false
set_option maxRecDepth 100000
set_option maxHeartbeats 4000000
/-! DL1: judgements: a piece of syntax and the computation that it does. -/
namespace DL
open PySem PySem.Spec L2
abbrev Sl := List (Option D)
abbrev ME := Sl → List D → Out R
abbrev MB := Sl → List D → Out Bool
abbrev MA := Sl → List D → Out (List D)
abbrev MF := List D → List D → Out R
inductive OutS where
  | nx (ρ : Sl) (bx : List D)
  | rt (r : R) (bx : List D)
  | bk (ρ : Sl) (bx : List D)
  | ct (ρ : Sl) (bx : List D)
  | exn (c : Nat) (ns : List Str) (ds : List D) (ρ : Sl) (bx : List D)
  | stk
abbrev MS := Sl → List D → OutS

section
variable (K : PySem.W.Frag) (CA : Ly)
def RRv (F' : Addr → Prop) (μ : List Addr) (H H' : Hp) : R → V → Prop
  | .val d, v => Rp K CA F' μ H' d v
  | .new d, v => ∃ a, v = .ref a ∧ Vac H a ∧ a ∉ μ ∧ ¬ F' a ∧ At K CA F' μ H' d a
def ExAt (F : Addr → Prop) (μ : List Addr) (H : Hp) (c : Nat) (ns : List Str) (ds : List D) (cls : Value) (dx : Option Addr) : Prop :=
  cls = .ref (CA c) ∧ ∃ a vs, dx = some a ∧ H a = some (.xd (ns.zip vs)) ∧ ns.length = ds.length ∧ Rps K CA F μ H ds vs
def OkG {α β : Type} (W : WX) (F : Addr → Prop) (μ : List Addr) (σ : L2.St) (H : Hp) (rel : (Addr → Prop) → Hp → α → β → Prop) (o : Out α) (Q : β → Hp → Prop) : Prop := match o with
  | .ok r bx' => ∀ v F' H', Ext F μ H F' H' → Sx K CA F' μ H' bx' → rel F' H' r v → Q v H'
  | .exn c ns ds bx' => ∀ cls dx F' H', Ext F μ H F' H' → Sx K CA F' μ H' bx' → ExAt K CA F' μ H' c ns ds cls dx → W cls dx σ H'
  | .stk => False
end
section
variable {K : PySem.W.Frag} {CA : Ly} {W : WX} {F F' F1 : Addr → Prop} {μ μ' : List Addr} {H H' H1 : Hp} {bx : List D} {ρ : Sl} {σ : L2.St} {α β γ δ : Type}
theorem OkG.shift {rel rel1 : (Addr → Prop) → Hp → α → β → Prop} {o : Out α} {Q : β → Hp → Prop} (e : Ext F μ H F1 H1) (hr : ∀ F' H' r v, rel1 F' H' r v → rel F' H' r v) (h : OkG K CA W F μ σ H rel o Q) : OkG K CA W F1 μ σ H1 rel1 o Q := by
  cases o with
  | ok r bx' => exact fun v F' H' e' s rr => h v F' H' (e.trans e') s (hr _ _ _ _ rr)
  | exn c ns ds bx' => exact fun cls dx F' H' e' s x => h cls dx F' H' (e.trans e') s x
  | stk => exact h
theorem OkG.seq {rel1 : (Addr → Prop) → Hp → α → β → Prop} {rel2 : (Addr → Prop) → Hp → γ → δ → Prop} {o : Out α} {f : α → List D → Out γ} {Q : δ → Hp → Prop} {Q1 : β → Hp → Prop} (h : OkG K CA W F μ σ H rel2 (o.bind f) Q)
    (k : ∀ r bx1 v F1 H1, Ext F μ H F1 H1 → Sx K CA F1 μ H1 bx1 → rel1 F1 H1 r v → OkG K CA W F μ σ H rel2 (f r bx1) Q → Q1 v H1) : OkG K CA W F μ σ H rel1 o Q1 := by
  cases o with
  | ok r bx' => exact fun v F' H' e' s rr => k r bx' v F' H' e' s rr h
  | exn c ns ds bx' => exact h
  | stk => exact h
theorem RRv.of {H1 : Hp} (e : Ext F μ H F1 H1) {F' : Addr → Prop} {H' : Hp} {r : R} {v : V} (h : RRv K CA F' μ H1 H' r v) : RRv K CA F' μ H H' r v := by
  cases r with
  | val d => exact h
  | new d => obtain ⟨a, e1, e2, e3, e4, e5⟩ := h; exact ⟨a, e1, e.back e2 e3, e3, e4, e5⟩
theorem OkG.shiftR {o : Out R} {Q : VK} (e : Ext F μ H F1 H1) (h : OkG K CA W F μ σ H (fun F' H' => RRv K CA F' μ H H') o Q) : OkG K CA W F1 μ σ H1 (fun F' H' => RRv K CA F' μ H1 H') o Q :=
  h.shift e fun _ _ _ _ r => r.of e
end

section
variable (X : Cx) (CA : Ly) (W : WX)
/-- the expression does m -/
structure SE (e : Expr) (m : ME) : Prop where
  ex : ∃ te, PE X e te ∧ ∀ ρ bx F μ σ H Q, Sx X.K CA F μ H bx → En X.K CA F μ H ρ σ → OkG X.K CA W F μ σ H (fun F' H' => RRv X.K CA F' μ H H') (m ρ bx) Q → te σ H Q
structure ST (e : Expr) (m : MB) : Prop where
  ex : ∃ te, PT X e te ∧ ∀ ρ bx F μ σ H Q, Sx X.K CA F μ H bx → En X.K CA F μ H ρ σ → OkG X.K CA W F μ σ H (fun _ _ (b c : Bool) => c = b) (m ρ bx) Q → te σ H Q
structure SW (e : Expr) (m : MB) : Prop where
  ex : ∃ te, PW X e te ∧ ∀ ρ bx F μ σ H Q, Sx X.K CA F μ H bx → En X.K CA F μ H ρ σ → OkG X.K CA W F μ σ H (fun _ _ (b c : Bool) => c = b) (m ρ bx) Q → te σ H Q
structure SA (es : List Expr) (m : MA) : Prop where
  ex : ∃ ta, PA X es ta ∧ ∀ ρ bx F μ σ H Q, Sx X.K CA F μ H bx → En X.K CA F μ H ρ σ → OkG X.K CA W F μ σ H (fun F' H' => Rps X.K CA F' μ H') (m ρ bx) Q → ta σ H Q
end
theorem OkG.unfrz {K : PySem.W.Frag} {CA : Ly} {W : WX} {F : Addr → Prop} {μ : List Addr} {σ : L2.St} {H : Hp} {bx : List D} {o0 : Out R} {Q : VK} (s : Sx K CA F μ H bx) (o : OkG K CA W F μ σ H (fun F' H' => Rp K CA F' μ H') (o0.map R.d) Q) :
    OkG K CA W F μ σ H (fun F' H' => RRv K CA F' μ H H') o0 Q := by
  cases o0 with
  | ok r bx' =>
    intro v F' H' e' s' rr
    cases r with
    | val d => exact o v F' H' e' s' rr
    | new d =>
      obtain ⟨c, e1, e2, e3, e4, e5⟩ := rr
      subst e1
      have up : ∀ x, F' x → (F' x ∨ x = c) := fun _ z => .inl z
      have s2 : Sx K CA (fun x => F' x ∨ x = c) μ H' bx' := s'.same up (fun x hx z => z.elim (s'.dj x hx) fun z => e3 (z ▸ hx)) (fun x hx => hx.elim (fun z => let ⟨o, q⟩ := s'.tr x z; ⟨o, q, s'.ft x o z q⟩) fun z => let ⟨o, q⟩ := e5.there; ⟨o, z ▸ q, e5.nt o q⟩) fun _ _ z => z
      refine o (.ref c) _ H' ⟨fun x hx => .inl (e'.up x hx), fun x hx => ?_, e'.keep⟩ s2 ?_
      · rcases hx with hx | hx
        · exact e'.fr x hx
        · exact .inr (hx ▸ ⟨e2, e3⟩)
      · have mo : ∀ {ds vs}, Rps K CA F' μ H' ds vs → Rps K CA (fun x => F' x ∨ x = c) μ H' ds vs := fun r => r.mono up (fun _ _ q => q) fun _ _ _ z => z
        cases d with
        | lst ds => obtain ⟨vs, q1, q2⟩ := e5; exact ⟨c, vs, rfl, ⟨.inr rfl, q1⟩, mo q2⟩
        | ins k ns ds => obtain ⟨dx, vs, q1, q3, q2⟩ := e5; exact ⟨c, dx, vs, rfl, .inr rfl, q1, q3, mo q2⟩
        | dk ks ds => obtain ⟨vs, q1, q3, q2⟩ := e5; exact ⟨c, vs, rfl, .inr rfl, q1, q3, mo q2⟩
        | dt ks ds => obtain ⟨vs, q1, q3, q2⟩ := e5; exact ⟨c, vs, rfl, .inr rfl, q1, q3, mo q2⟩
        | _ => exact e5.elim
  | exn c ns ds bx' => exact o
  | stk => exact o


section
variable {X : Cx} {CA : Ly} {W : WX} {e a b : Expr} {es : List Expr} {pos : Pos}
/-- with what is new frozen -/
theorem SE.dat {m : ME} (h : SE X CA W e m) : ∃ te, PE X e te ∧ ∀ ρ bx F μ σ H Q, Sx X.K CA F μ H bx → En X.K CA F μ H ρ σ → OkG X.K CA W F μ σ H (fun F' H' => Rp X.K CA F' μ H') ((m ρ bx).map R.d) Q → te σ H Q := by
  obtain ⟨te, h1, h2⟩ := h.ex
  exact ⟨te, h1, fun ρ bx F μ σ H Q s n o => h2 ρ bx F μ σ H Q s n (OkG.unfrz s o)⟩
/-! ### names, constants -/
def mVar (i : Nat) : ME := fun ρ bx => match ρ[i]? with
  | some (some d) => .ok (.val d) bx
  | _ => .stk
def mC (d : D) : ME := fun _ bx => .ok (.val d) bx
theorem se_var {i : Nat} {x : Str} (hN : X.N[i]? = some x := by rfl) (hv : Vis X.env.scope x := by first | exact Or.inl rfl | exact Or.inr (Or.inl rfl) | exact Or.inr (Or.inr rfl)) (hd : (x == ("__debug__" : Str)) = false := by decide)
    (hcd : (x == ("__classdict__" : Str)) = false := by decide) : SE X CA W (.Name x pos) (mVar i) := by
  refine ⟨tVar i, pe_var hN hv hd hcd, fun ρ bx F μ σ H Q s n o => ?_⟩
  unfold mVar at o
  split at o
  · rename_i d hd
    obtain ⟨v, h1, h2⟩ := n.at_ i d hd
    exact ⟨v, h1, o v F H Ext.refl s h2⟩
  · exact o.elim
theorem se_c {d : D} {v : V} (h : PE X e (tC v)) (r : ∀ F μ H, Rp X.K CA F μ H d v) : SE X CA W e (mC d) :=
  ⟨tC v, h, fun _ _ F _ _ H _ s _ o => o v F H Ext.refl s (r _ _ _)⟩
theorem se_int {i j} : SE X CA W (.Constant (.int i) j pos) (mC (.int i)) := se_c pe_int fun _ _ _ => rfl
theorem se_bl {i j} : SE X CA W (.Constant (.bool i) j pos) (mC (.bl i)) := se_c pe_bl fun _ _ _ => rfl
theorem se_non {j} : SE X CA W (.Constant .none j pos) (mC .non) := se_c pe_non fun _ _ _ => rfl
theorem se_str {i j} : SE X CA W (.Constant (.str i) j pos) (mC (.str i)) := se_c pe_str fun _ _ _ => rfl
theorem se_glob {x : Str} {f : Addr} (hg : Gl X x) (hm : X.mg x = some (.ref f)) (hd : (x == ("__debug__" : Str)) = false := by decide) : SE X CA W (.Name x pos) (mC (.adr f)) := se_c (v := .ref f) (pe_glob hg hm rfl hd) fun _ _ _ => rfl

/-! ### operators -/
/-- an operation on values does g -/
def DOp (X : Cx) (CA : Ly) (W : WX) (f : Value → Value → Sem Value) (g : D → D → List D → Out R) : Prop :=
  ∃ r : R2, OpR X f r ∧ ∀ x y vx vy bx F μ σ H Q, Sx X.K CA F μ H bx → Rp X.K CA F μ H x vx → Rp X.K CA F μ H y vy → OkG X.K CA W F μ σ H (fun F' H' => RRv X.K CA F' μ H H') (g x y bx) Q → r vx vy H Q
theorem DOp.or {f : Value → Value → Sem Value} {g g' : D → D → List D → Out R} (h : DOp X CA W f g) (h' : DOp X CA W f g') : DOp X CA W f (fun x y bx => match g x y bx with | .stk => g' x y bx | o => o) := by
  obtain ⟨r, h1, h2⟩ := h
  obtain ⟨r', h1', h2'⟩ := h'
  refine ⟨_, h1.or h1', fun x y vx vy bx F μ σ H Q s rx ry o => ?_⟩
  cases q : g x y bx with
  | ok a b => simp only [q] at o; exact .inl (h2 x y vx vy bx F μ σ H Q s rx ry (by rw [q]; exact o))
  | exn c ns ds b => simp only [q] at o; exact .inl (h2 x y vx vy bx F μ σ H Q s rx ry (by rw [q]; exact o))
  | stk => simp only [q] at o; exact .inr (h2' x y vx vy bx F μ σ H Q s rx ry o)
def mBin (g : D → D → List D → Out R) (a b : ME) : ME := fun ρ bx => (a ρ bx).bind fun x b1 => (b ρ b1).bind fun y b2 => g x.d y.d b2
theorem map_bind {α β γ : Type} {o : Out α} {f : α → β} {g : β → List D → Out γ} : (o.map f).bind g = o.bind fun x b => g (f x) b := by cases o <;> rfl
theorem bin_ok {ta tb : TE} {ma mb : ME} {g : D → D → List D → Out R} {r : R2}
    (ha : ∀ ρ bx F μ σ H Q, Sx X.K CA F μ H bx → En X.K CA F μ H ρ σ → OkG X.K CA W F μ σ H (fun F' H' => Rp X.K CA F' μ H') ((ma ρ bx).map R.d) Q → ta σ H Q)
    (hb : ∀ ρ bx F μ σ H Q, Sx X.K CA F μ H bx → En X.K CA F μ H ρ σ → OkG X.K CA W F μ σ H (fun F' H' => Rp X.K CA F' μ H') ((mb ρ bx).map R.d) Q → tb σ H Q)
    (hr : ∀ x y vx vy bx F μ σ H Q, Sx X.K CA F μ H bx → Rp X.K CA F μ H x vx → Rp X.K CA F μ H y vy → OkG X.K CA W F μ σ H (fun F' H' => RRv X.K CA F' μ H H') (g x y bx) Q → r vx vy H Q) :
    ∀ ρ bx F μ σ H Q, Sx X.K CA F μ H bx → En X.K CA F μ H ρ σ → OkG X.K CA W F μ σ H (fun F' H' => RRv X.K CA F' μ H H') (mBin g ma mb ρ bx) Q → tOp r ta tb σ H Q := by
  intro ρ bx F μ σ H Q s n o
  refine ha ρ bx F μ σ H _ s n ?_
  have o' : OkG X.K CA W F μ σ H (fun F' H' => RRv X.K CA F' μ H H') (((ma ρ bx).map R.d).bind fun x b1 => (mb ρ b1).bind fun y b2 => g x y.d b2) Q := by rw [map_bind]; exact o
  refine o'.seq fun x b1 vx F1 H1 e1 s1 rx o1 => ?_
  refine hb ρ b1 F1 μ σ H1 _ s1 (n.ext s e1) ?_
  have o2 : OkG X.K CA W F1 μ σ H1 (fun F' H' => RRv X.K CA F' μ H1 H') (((mb ρ b1).map R.d).bind fun y b2 => g x y b2) Q := by rw [map_bind]; exact o1.shiftR e1
  refine o2.seq fun y b2 vy F2 H2 e2 s2 ry o3 => ?_
  exact hr x y vx vy b2 F2 μ σ H2 Q s2 (rx.ext s1 e2) ry (o3.shiftR e2)
theorem se_bin {op : Operator} {g : D → D → List D → Out R} {ma mb : ME} (ho : DOp X CA W (binaryOp op) g) (ha : SE X CA W a ma) (hb : SE X CA W b mb) : SE X CA W (.BinOp a op b pos) (mBin g ma mb) := by
  obtain ⟨r, h1, h2⟩ := ho
  obtain ⟨ta, a1, a2⟩ := ha.dat
  obtain ⟨tb, b1, b2⟩ := hb.dat
  exact ⟨_, pe_op h1 a1 b1, bin_ok a2 b2 h2⟩
theorem se_cmp {op : CmpOp} {g : D → D → List D → Out R} {ma mb : ME} (ho : DOp X CA W (compareOp op) g) (ha : SE X CA W a ma) (hb : SE X CA W b mb) (hm : behindInMarks op b = false) : SE X CA W (.Compare a [op] [b] pos) (mBin g ma mb) := by
  obtain ⟨r, h1, h2⟩ := ho
  obtain ⟨ta, a1, a2⟩ := ha.dat
  obtain ⟨tb, b1, b2⟩ := hb.dat
  exact ⟨_, pe_cmpR h1 a1 b1 hm, bin_ok a2 b2 h2⟩
/-- a result as a truth -/
def R.tr : R → List D → Out Bool
  | .val (.bl b), bx => .ok b bx
  | _, _ => .stk
def mTest (m : ME) : MB := fun ρ bx => (m ρ bx).bind fun r b1 => r.tr b1
theorem test_ok {te : TE} {m : ME} (h : ∀ ρ bx F μ σ H Q, Sx X.K CA F μ H bx → En X.K CA F μ H ρ σ → OkG X.K CA W F μ σ H (fun F' H' => RRv X.K CA F' μ H H') (m ρ bx) Q → te σ H Q) :
    ∀ ρ bx F μ σ H Q, Sx X.K CA F μ H bx → En X.K CA F μ H ρ σ → OkG X.K CA W F μ σ H (fun _ _ (b c : Bool) => c = b) (mTest m ρ bx) Q → te σ H (fun x H' => ∃ k, x = .bl k ∧ Q k H') := by
  intro ρ bx F μ σ H Q s n o
  refine h ρ bx F μ σ H _ s n ?_
  refine OkG.seq (rel2 := fun _ _ (b c : Bool) => c = b) (Q := Q) o fun r b1 v F1 H1 e1 s1 rv o1 => ?_
  cases r with
  | new d => exact o1.elim
  | val d => cases d with
    | bl k => exact ⟨k, rv, o1 k F1 H1 e1 s1 rfl⟩
    | _ => exact o1.elim
theorem st_cmp {op : CmpOp} {g : D → D → List D → Out R} {ma mb : ME} (ho : DOp X CA W (compareOp op) g) (ha : SE X CA W a ma) (hb : SE X CA W b mb) (hm : behindInMarks op b = false) : ST X CA W (.Compare a [op] [b] pos) (mTest (mBin g ma mb)) := by
  obtain ⟨r, h1, h2⟩ := ho
  obtain ⟨ta, a1, a2⟩ := ha.dat
  obtain ⟨tb, b1, b2⟩ := hb.dat
  exact ⟨_, pt_cmpR h1 a1 b1 hm, test_ok (bin_ok a2 b2 h2)⟩
theorem st_val {m : ME} (h : SE X CA W e m) (he : ∀ whole, isTrue e X.env whole = (do let v ← whole; standAt e.pos; holding [v] (truthy v)) := by intro _; rfl) : ST X CA W e (mTest m) := by
  obtain ⟨te, h1, h2⟩ := h.ex
  exact ⟨_, pt_val h1 he, test_ok h2⟩
/-- one-place -/
def DUn (X : Cx) (CA : Ly) (W : WX) (f : Value → Sem Value) (g : D → List D → Out R) : Prop :=
  ∃ r : V → Hp → VK → Prop, UnR X f r ∧ ∀ x vx bx F μ σ H Q, Sx X.K CA F μ H bx → Rp X.K CA F μ H x vx → OkG X.K CA W F μ σ H (fun F' H' => RRv X.K CA F' μ H H') (g x bx) Q → r vx H Q
def mUn (g : D → List D → Out R) (a : ME) : ME := fun ρ bx => (a ρ bx).bind fun x b1 => g x.d b1
theorem un_ok {ta : TE} {ma : ME} {g : D → List D → Out R} {r : V → Hp → VK → Prop}
    (ha : ∀ ρ bx F μ σ H Q, Sx X.K CA F μ H bx → En X.K CA F μ H ρ σ → OkG X.K CA W F μ σ H (fun F' H' => Rp X.K CA F' μ H') ((ma ρ bx).map R.d) Q → ta σ H Q)
    (hr : ∀ x vx bx F μ σ H Q, Sx X.K CA F μ H bx → Rp X.K CA F μ H x vx → OkG X.K CA W F μ σ H (fun F' H' => RRv X.K CA F' μ H H') (g x bx) Q → r vx H Q) :
    ∀ ρ bx F μ σ H Q, Sx X.K CA F μ H bx → En X.K CA F μ H ρ σ → OkG X.K CA W F μ σ H (fun F' H' => RRv X.K CA F' μ H H') (mUn g ma ρ bx) Q → tUn r ta σ H Q := by
  intro ρ bx F μ σ H Q s n o
  refine ha ρ bx F μ σ H _ s n ?_
  have o' : OkG X.K CA W F μ σ H (fun F' H' => RRv X.K CA F' μ H H') (((ma ρ bx).map R.d).bind fun x b1 => g x b1) Q := by rw [map_bind]; exact o
  refine o'.seq fun x b1 vx F1 H1 e1 s1 rx o1 => ?_
  exact hr x vx b1 F1 μ σ H1 Q s1 rx (o1.shiftR e1)
theorem se_un {op : UnaryOp} {g : D → List D → Out R} {ma : ME} (ho : DUn X CA W (unaryOp op) g) (ha : SE X CA W a ma) : SE X CA W (.UnaryOp op a pos) (mUn g ma) := by
  obtain ⟨r, h1, h2⟩ := ho
  obtain ⟨ta, a1, a2⟩ := ha.dat
  exact ⟨_, pe_un h1 a1, un_ok a2 h2⟩

/-! ### and, or, not, if -/
def mAnd (a b : MB) : MB := fun ρ bx => (a ρ bx).bind fun x b1 => if x then b ρ b1 else .ok false b1
def mOr (a b : MB) : MB := fun ρ bx => (a ρ bx).bind fun x b1 => if x then .ok true b1 else b ρ b1
def mNot (a : MB) : MB := fun ρ bx => (a ρ bx).bind fun x b1 => .ok (!x) b1
theorem OkG.bsh {K : PySem.W.Frag} {F F1 : Addr → Prop} {μ : List Addr} {σ : L2.St} {H H1 : Hp} {o : Out Bool} {Q : Bool → Hp → Prop} (e : Ext F μ H F1 H1) (h : OkG K CA W F μ σ H (fun _ _ (b c : Bool) => c = b) o Q) :
    OkG K CA W F1 μ σ H1 (fun _ _ (b c : Bool) => c = b) o Q := h.shift e fun _ _ _ _ z => z
theorem sw_and {ma mb : MB} {rest : List Expr} (ha : ST X CA W a ma) (hb : SW X CA W (.BoolOp .And (b :: rest) pos) mb) : SW X CA W (.BoolOp .And (a :: b :: rest) pos) (mAnd ma mb) := by
  obtain ⟨ta, a1, a2⟩ := ha.ex
  obtain ⟨tb, b1, b2⟩ := hb.ex
  refine ⟨_, pw_and a1 b1, fun ρ bx F μ σ H Q s n o => a2 ρ bx F μ σ H _ s n ?_⟩
  refine OkG.seq (rel2 := fun _ _ (b c : Bool) => c = b) (Q := Q) o fun x b1 c F1 H1 e1 s1 ec o1 => ?_
  subst ec
  cases c with
  | true => exact iteT (b2 ρ b1 F1 μ σ H1 Q s1 (n.ext s e1) (OkG.bsh e1 o1))
  | false => exact iteF (o1 false F1 H1 e1 s1 rfl)
theorem sw_or {ma mb : MB} {rest : List Expr} (ha : ST X CA W a ma) (hb : SW X CA W (.BoolOp .Or (b :: rest) pos) mb) : SW X CA W (.BoolOp .Or (a :: b :: rest) pos) (mOr ma mb) := by
  obtain ⟨ta, a1, a2⟩ := ha.ex
  obtain ⟨tb, b1, b2⟩ := hb.ex
  refine ⟨_, pw_or a1 b1, fun ρ bx F μ σ H Q s n o => a2 ρ bx F μ σ H _ s n ?_⟩
  refine OkG.seq (rel2 := fun _ _ (b c : Bool) => c = b) (Q := Q) o fun x b1 c F1 H1 e1 s1 ec o1 => ?_
  subst ec
  cases c with
  | true => exact iteT (o1 true F1 H1 e1 s1 rfl)
  | false => exact iteF (b2 ρ b1 F1 μ σ H1 Q s1 (n.ext s e1) (OkG.bsh e1 o1))
theorem sw_and1 {ma : MB} (ha : ST X CA W a ma) : SW X CA W (.BoolOp .And [a] pos) ma := let ⟨ta, a1, a2⟩ := ha.ex; ⟨ta, pw_and1 a1, a2⟩
theorem sw_or1 {ma : MB} (ha : ST X CA W a ma) : SW X CA W (.BoolOp .Or [a] pos) ma := let ⟨ta, a1, a2⟩ := ha.ex; ⟨ta, pw_or1 a1, a2⟩
theorem SW.t {m : MB} (h : SW X CA W e m) : ST X CA W e m := let ⟨ta, a1, a2⟩ := h.ex; ⟨ta, a1.pt, a2⟩
theorem st_not {ma : MB} (ha : ST X CA W a ma) : ST X CA W (.UnaryOp .Not a pos) (mNot ma) := by
  obtain ⟨ta, a1, a2⟩ := ha.ex
  refine ⟨_, pt_not a1, fun ρ bx F μ σ H Q s n o => a2 ρ bx F μ σ H _ s n ?_⟩
  refine OkG.seq (rel2 := fun _ _ (b c : Bool) => c = b) (Q := Q) o fun x b1 c F1 H1 e1 s1 ec o1 => ?_
  subst ec
  exact o1 (!c) F1 H1 e1 s1 rfl
/-- the same as values that are truths -/
def mAndV (a b : ME) : ME := fun ρ bx => (mTest a ρ bx).bind fun x b1 => if x then b ρ b1 else .ok (.val (.bl false)) b1
def mOrV (a b : ME) : ME := fun ρ bx => (mTest a ρ bx).bind fun x b1 => if x then .ok (.val (.bl true)) b1 else b ρ b1
def mNotV (a : ME) : ME := fun ρ bx => (mTest a ρ bx).bind fun x b1 => .ok (.val (.bl (!x))) b1
theorem se_one {op} {ma : ME} (ha : SE X CA W a ma) : SE X CA W (.BoolOp op [a] pos) ma := let ⟨ta, a1, a2⟩ := ha.ex; ⟨ta, pe_one a1, a2⟩
theorem se_and {ma mb : ME} {rest : List Expr} (ha : SE X CA W a ma) (hb : SE X CA W (.BoolOp .And (b :: rest) pos) mb) : SE X CA W (.BoolOp .And (a :: b :: rest) pos) (mAndV ma mb) := by
  obtain ⟨ta, a1, a2⟩ := ha.ex
  obtain ⟨tb, b1, b2⟩ := hb.ex
  refine ⟨_, pe_and a1 b1, fun ρ bx F μ σ H Q s n o => ?_⟩
  refine test_ok a2 ρ bx F μ σ H (fun c H1 => if c = true then tb σ H1 Q else Q (.bl false) H1) s n ?_
  refine OkG.seq (rel2 := fun F' H' => RRv X.K CA F' μ H H') (Q := Q) o fun x b1 c F1 H1 e1 s1 ec o1 => ?_
  subst ec
  cases c with
  | true => exact iteT (b2 ρ b1 F1 μ σ H1 Q s1 (n.ext s e1) (OkG.shiftR e1 o1))
  | false => exact iteF (o1 (.bl false) F1 H1 e1 s1 rfl)
theorem se_or {ma mb : ME} {rest : List Expr} (ha : SE X CA W a ma) (hb : SE X CA W (.BoolOp .Or (b :: rest) pos) mb) : SE X CA W (.BoolOp .Or (a :: b :: rest) pos) (mOrV ma mb) := by
  obtain ⟨ta, a1, a2⟩ := ha.ex
  obtain ⟨tb, b1, b2⟩ := hb.ex
  refine ⟨_, pe_or a1 b1, fun ρ bx F μ σ H Q s n o => ?_⟩
  refine test_ok a2 ρ bx F μ σ H (fun c H1 => if c = true then Q (.bl true) H1 else tb σ H1 Q) s n ?_
  refine OkG.seq (rel2 := fun F' H' => RRv X.K CA F' μ H H') (Q := Q) o fun x b1 c F1 H1 e1 s1 ec o1 => ?_
  subst ec
  cases c with
  | true => exact iteT (o1 (.bl true) F1 H1 e1 s1 rfl)
  | false => exact iteF (b2 ρ b1 F1 μ σ H1 Q s1 (n.ext s e1) (OkG.shiftR e1 o1))
theorem se_not {ma : ME} (ha : SE X CA W a ma) : SE X CA W (.UnaryOp .Not a pos) (mNotV ma) := by
  obtain ⟨ta, a1, a2⟩ := ha.ex
  refine ⟨_, pe_not a1, fun ρ bx F μ σ H Q s n o => ?_⟩
  refine test_ok a2 ρ bx F μ σ H (fun c H1 => Q (.bl (!c)) H1) s n ?_
  refine OkG.seq (rel2 := fun F' H' => RRv X.K CA F' μ H H') (Q := Q) o fun x b1 c F1 H1 e1 s1 ec o1 => ?_
  subst ec
  exact o1 (.bl (!c)) F1 H1 e1 s1 rfl
def mIf (t : MB) (a b : ME) : ME := fun ρ bx => (t ρ bx).bind fun x b1 => if x then a ρ b1 else b ρ b1

/-! ### argument lists -/
def aNil : MA := fun _ bx => .ok [] bx
def aCons (m : ME) (r : MA) : MA := fun ρ bx => (m ρ bx).bind fun x b1 => (r ρ b1).bind fun ds b2 => .ok (x.d :: ds) b2
theorem sa_nil : SA X CA W [] aNil := ⟨tNil, pa_nil, fun _ bx F _ _ H _ s _ o => o [] F H Ext.refl s trivial⟩
theorem cons_ok {ta : TE} {tr : TA} {m : ME} {r : MA} (a2 : ∀ ρ bx F μ σ H Q, Sx X.K CA F μ H bx → En X.K CA F μ H ρ σ → OkG X.K CA W F μ σ H (fun F' H' => Rp X.K CA F' μ H') ((m ρ bx).map R.d) Q → ta σ H Q)
    (b2 : ∀ ρ bx F μ σ H Q, Sx X.K CA F μ H bx → En X.K CA F μ H ρ σ → OkG X.K CA W F μ σ H (fun F' H' => Rps X.K CA F' μ H') (r ρ bx) Q → tr σ H Q) :
    ∀ ρ bx F μ σ H Q, Sx X.K CA F μ H bx → En X.K CA F μ H ρ σ → OkG X.K CA W F μ σ H (fun F' H' => Rps X.K CA F' μ H') (aCons m r ρ bx) Q → tCons ta tr σ H Q := by
  intro ρ bx F μ σ H Q s n o
  refine a2 ρ bx F μ σ H _ s n ?_
  have o' : OkG X.K CA W F μ σ H (fun F' H' => Rps X.K CA F' μ H') (((m ρ bx).map R.d).bind fun x b1 => (r ρ b1).bind fun ds b2 => .ok (x :: ds) b2) Q := by rw [map_bind]; exact o
  refine o'.seq fun x b1 vx F1 H1 e1 s1 rx o1 => ?_
  refine b2 ρ b1 F1 μ σ H1 _ s1 (n.ext s e1) ?_
  refine OkG.seq (rel2 := fun F' H' => Rps X.K CA F' μ H') (Q := Q) (OkG.shift e1 (fun _ _ _ _ z => z) o1) fun ds b2 vs F2 H2 e2 s2 rs o2 => ?_
  exact o2 (vx :: vs) F2 H2 e2 s2 ⟨rx.ext s1 e2, rs⟩
theorem sa_cons {m : ME} {r : MA} (ha : SE X CA W e m) (hr : SA X CA W es r) (hs : starEach (e :: es) X.env = (false, eval e X.env) :: starEach es X.env := by rfl) : SA X CA W (e :: es) (aCons m r) := by
  obtain ⟨ta, a1, a2⟩ := ha.dat
  obtain ⟨tb, b1, b2⟩ := hr.ex
  exact ⟨_, pa_cons a1 b1 hs, cons_ok a2 b2⟩
end
end DL

set_option Elab.async false
set_option linter.all false
set_option maxRecDepth 100000
set_option maxHeartbeats 4000000
/-! DL2: displays, statements, defs and their calls. -/
namespace DL
open PySem PySem.Spec L2
section
variable {X : Cx} {CA : Ly} {W : WX} {e a b c : Expr} {es : List Expr} {pos : Pos}
/-! ### displays, a if t else b -/
def mTup (m : MA) : ME := fun ρ bx => (m ρ bx).bind fun ds b1 => if ds.length ≤ sizeLine then .ok (.val (.tup ds)) b1 else .stk
def mLst (m : MA) : ME := fun ρ bx => (m ρ bx).bind fun ds b1 => if ds.length ≤ sizeLine then .ok (.new (.lst ds)) b1 else .stk
theorem se_tup {x1} {m : MA} (h : SA X CA W es m) : SE X CA W (.Tuple es x1 pos) (mTup m) := by
  obtain ⟨ta, a1, a2⟩ := h.ex
  refine ⟨_, pe_tup a1, fun ρ bx F μ σ H Q s n o => a2 ρ bx F μ σ H _ s n ?_⟩
  refine OkG.seq (rel2 := fun F' H' => RRv X.K CA F' μ H H') (Q := Q) o fun ds b1 vs F1 H1 e1 s1 rs o1 => ?_
  by_cases hl : ds.length ≤ sizeLine
  · rw [if_pos hl] at o1
    refine ⟨by rw [← rs.length]; exact hl, fun p hp => ?_⟩
    have e2 := Ext.new (o := .tup vs) s1 hp
    exact o1 (.ref p) _ _ (e1.trans e2) (s1.new hp) ⟨p, vs, rfl, .inl ⟨.inr rfl, upd_same⟩, rs.ext s1 e2⟩
  · rw [if_neg hl] at o1; exact o1.elim
theorem se_lst {m : MA} (h : SA X CA W es m) : SE X CA W (.List es pos) (mLst m) := by
  obtain ⟨ta, a1, a2⟩ := h.ex
  refine ⟨_, pe_lst a1, fun ρ bx F μ σ H Q s n o => a2 ρ bx F μ σ H _ s n ?_⟩
  refine OkG.seq (rel2 := fun F' H' => RRv X.K CA F' μ H H') (Q := Q) o fun ds b1 vs F1 H1 e1 s1 rs o1 => ?_
  by_cases hl : ds.length ≤ sizeLine
  · rw [if_pos hl] at o1
    refine ⟨by rw [← rs.length]; exact hl, fun p hp => ?_⟩
    have e2 := Ext.tmp (F := F1) (μ := μ) (o := .lst vs) hp
    have nm := s1.notIn hp
    refine o1 (.ref p) F1 _ (e1.trans e2) (s1.tmp hp) ⟨p, rfl, e1.back (.of hp) nm, nm, s1.notF hp, vs, upd_same, rs.ext s1 e2⟩
  · rw [if_neg hl] at o1; exact o1.elim

theorem se_if {mt : MB} {ma mb : ME} (ht : ST X CA W c mt) (ha : SE X CA W a ma) (hb : SE X CA W b mb) : SE X CA W (.IfExp c a b pos) (mIf mt ma mb) := by
  obtain ⟨tt, t1, t2⟩ := ht.ex
  obtain ⟨ta, a1, a2⟩ := ha.ex
  obtain ⟨tb, b1, b2⟩ := hb.ex
  refine ⟨_, pe_ifExp t1 a1 b1, fun ρ bx F μ σ H Q s n o => t2 ρ bx F μ σ H _ s n ?_⟩
  refine OkG.seq (rel2 := fun F' H' => RRv X.K CA F' μ H H') (Q := Q) o fun x c1 k F1 H1 e1 s1 ec o1 => ?_
  subst ec
  cases k with
  | true => exact iteT (a2 ρ c1 F1 μ σ H1 Q s1 (n.ext s e1) (OkG.shiftR e1 o1))
  | false => exact iteF (b2 ρ c1 F1 μ σ H1 Q s1 (n.ext s e1) (OkG.shiftR e1 o1))
end

/-! ### boxes that come -/
structure ExtM (F : Addr → Prop) (μ : List Addr) (H : Hp) (F' : Addr → Prop) (μ' : List Addr) (H' : Hp) : Prop where
  up : ∀ a, F a → F' a
  fr : ∀ a, F' a → F a ∨ (Vac H a ∧ a ∉ μ)
  keep : ∀ a o, H a = some o → a ∉ μ → NT o → H' a = some o
  mu : ∃ ν, μ' = μ ++ ν ∧ ∀ b ∈ ν, Vac H b
section
variable {K : PySem.W.Frag} {CA : Ly} {W : WX} {F F' F'' F1 : Addr → Prop} {μ μ' μ'' μ1 : List Addr} {H H' H'' H1 : Hp} {bx : List D} {ρ : Sl} {σ : L2.St}
theorem Ext.m (e : Ext F μ H F' H') : ExtM F μ H F' μ H' := ⟨e.up, e.fr, e.keep, [], by simp, fun _ h => by cases h⟩
theorem ExtM.refl : ExtM F μ H F μ H := Ext.refl.m
theorem ExtM.get (e : ExtM F μ H F' μ' H') : ∀ (n : Nat) (a : Addr), μ[n]? = some a → μ'[n]? = some a := fun n a h => by
  obtain ⟨ν, e1, _⟩ := e.mu
  rw [e1, List.getElem?_append_left (List.getElem?_eq_some_iff.mp h).1]
  exact h
theorem ExtM.notIn (e : ExtM F μ H F' μ' H') {a : Addr} {o : HO} (h : H a = some o) (ho : NT o) (hm : a ∉ μ) : a ∉ μ' := fun hm' => by
  obtain ⟨ν, e1, e2⟩ := e.mu
  rw [e1] at hm'
  rcases List.mem_append.mp hm' with z | z
  · exact hm z
  · exact e2 a z o h ho
theorem ExtM.sub (e : ExtM F μ H F' μ' H') {a : Addr} (h : a ∈ μ) : a ∈ μ' := by
  obtain ⟨ν, e1, _⟩ := e.mu
  rw [e1]; exact List.mem_append_left _ h
theorem ExtM.back (e : ExtM F μ H F' μ' H') {a : Addr} (h : Vac H' a) (hm : a ∉ μ) : Vac H a := fun o q z => h o (e.keep a o q hm z) z
theorem Sx.boxN (s : Sx K CA F μ H bx) {a : Addr} (hm : a ∈ μ) : ∃ o, H a = some o ∧ NT o := by
  obtain ⟨n, hn, e2⟩ := List.mem_iff_getElem.mp hm
  have h1 : n < bx.length := s.len ▸ hn
  have z := s.at_ n _ a (List.getElem?_eq_getElem h1) (by rw [List.getElem?_eq_getElem hn, e2])
  obtain ⟨o, q⟩ := z.there
  exact ⟨o, q, z.nt o q⟩
theorem Sx.box (s : Sx K CA F μ H bx) {a : Addr} (hm : a ∈ μ) : ∃ o, H a = some o := let ⟨o, q, _⟩ := s.boxN hm; ⟨o, q⟩
theorem ExtM.trans (e : ExtM F μ H F' μ' H') (s : Sx K CA F' μ' H' bx) (e' : ExtM F' μ' H' F'' μ'' H'') : ExtM F μ H F'' μ'' H'' := by
  refine ⟨fun a h => e'.up a (e.up a h), fun a h => (e'.fr a h).elim (fun z => e.fr a z) fun z => ?_, fun a o h hm z => e'.keep a o (e.keep a o h hm z) (e.notIn h z hm) z, ?_⟩
  · exact .inr ⟨e.back z.1 fun q => z.2 (e.sub q), fun q => z.2 (e.sub q)⟩
  · obtain ⟨ν, e1, e2⟩ := e.mu
    obtain ⟨ν', e1', e2'⟩ := e'.mu
    refine ⟨ν ++ ν', by rw [e1', e1, List.append_assoc], fun b hb => ?_⟩
    rcases List.mem_append.mp hb with z | z
    · exact e2 b z
    · by_cases q : b ∈ μ
      · obtain ⟨o, r, n⟩ := s.boxN (e.sub q)
        exact (e2' b z o r n).elim
      · exact e.back (e2' b z) q
theorem Sx.stayM (s : Sx K CA F μ H bx) (e : ExtM F μ H F' μ' H') : Stay F H H' := fun a o f h => e.keep a o h (fun z => s.dj a z f) (s.ft a o f h)
theorem Rp.extM {d : D} {v : V} (s : Sx K CA F μ H bx) (e : ExtM F μ H F' μ' H') (h : Rp K CA F μ H d v) : Rp K CA F' μ' H' d v := h.mono e.up e.get (s.stayM e)
theorem Rps.extM {ds : List D} {vs : List V} (s : Sx K CA F μ H bx) (e : ExtM F μ H F' μ' H') (h : Rps K CA F μ H ds vs) : Rps K CA F' μ' H' ds vs := h.mono e.up e.get (s.stayM e)
theorem En.extM (s : Sx K CA F μ H bx) (e : ExtM F μ H F' μ' H') (h : En K CA F μ H ρ σ) : En K CA F' μ' H' ρ σ :=
  ⟨h.len, fun i d q => let ⟨v, q1, q2⟩ := h.at_ i d q; ⟨v, q1, q2.extM s e⟩⟩
theorem En.set {i : Nat} {d : D} {v : V} (h : En K CA F μ H ρ σ) (r : Rp K CA F μ H d v) : En K CA F μ H (ρ.set i (some d)) (σ.set i (some v)) := by
  refine ⟨by rw [List.length_set, List.length_set]; exact h.len, fun j d' q => ?_⟩
  by_cases e : i = j
  · subst e
    have hi : i < ρ.length := by
      have := (List.getElem?_eq_some_iff.mp q).1
      rwa [List.length_set] at this
    rw [List.getElem?_set_self hi] at q
    cases q
    exact ⟨v, List.getElem?_set_self (h.len ▸ hi), r⟩
  · rw [List.getElem?_set_ne e] at q
    obtain ⟨w, q1, q2⟩ := h.at_ j d' q
    exact ⟨w, by rw [List.getElem?_set_ne e]; exact q1, q2⟩
end

/-! ### statements -/
section
variable (K : PySem.W.Frag) (CA : Ly) (W : WX)
def OkS (F : Addr → Prop) (μ : List Addr) (H : Hp) (D : Ends) : OutS → Prop
  | .nx ρ' bx' => ∀ σ' F' μ' H', ExtM F μ H F' μ' H' → Sx K CA F' μ' H' bx' → En K CA F' μ' H' ρ' σ' → D.nx σ' H'
  | .bk ρ' bx' => ∀ σ' F' μ' H', ExtM F μ H F' μ' H' → Sx K CA F' μ' H' bx' → En K CA F' μ' H' ρ' σ' → D.bk σ' H'
  | .ct ρ' bx' => ∀ σ' F' μ' H', ExtM F μ H F' μ' H' → Sx K CA F' μ' H' bx' → En K CA F' μ' H' ρ' σ' → D.ct σ' H'
  | .rt r bx' => ∀ v F' μ' H', ExtM F μ H F' μ' H' → Sx K CA F' μ' H' bx' → RRv K CA F' μ' H H' r v → D.rt v H'
  | .exn c ns ds ρ' bx' => ∀ cls dx σ' F' μ' H', ExtM F μ H F' μ' H' → Sx K CA F' μ' H' bx' → En K CA F' μ' H' ρ' σ' → ExAt K CA F' μ' H' c ns ds cls dx → W cls dx σ' H'
  | .stk => False
end
def liftE {α : Type} (o : Out α) (ρ : Sl) (f : α → List D → OutS) : OutS := match o with
  | .ok r b => f r b
  | .exn c ns ds b => .exn c ns ds ρ b
  | .stk => .stk
@[simp] theorem liftE_ok {α : Type} {r : α} {b : List D} {ρ : Sl} {f : α → List D → OutS} : liftE (.ok r b) ρ f = f r b := rfl
@[simp] theorem liftE_exn {α : Type} {c ns ds} {b : List D} {ρ : Sl} {f : α → List D → OutS} : liftE (.exn c ns ds b) ρ f = .exn c ns ds ρ b := rfl
@[simp] theorem liftE_stk {α : Type} {ρ : Sl} {f : α → List D → OutS} : liftE .stk ρ f = .stk := rfl
section
variable {K : PySem.W.Frag} {CA : Ly} {W : WX} {F F' F'' F1 : Addr → Prop} {μ μ' μ'' μ1 : List Addr} {H H' H'' H1 : Hp} {bx bx1 : List D} {ρ : Sl} {σ : L2.St} {D : Ends} {α β : Type}
theorem RRv.ofM (e : ExtM F μ H F1 μ1 H1) (hs : ∀ a ∈ μ1, a ∈ μ') {r : R} {v : V} (h : RRv K CA F' μ' H1 H' r v) : RRv K CA F' μ' H H' r v := by
  cases r with
  | val d => exact h
  | new d => obtain ⟨a, e1, e2, e3, e4, e5⟩ := h; exact ⟨a, e1, e.back e2 fun z => e3 (hs _ (e.sub z)), e3, e4, e5⟩
theorem OkS.shift {o : OutS} (e : ExtM F μ H F1 μ1 H1) (s : Sx K CA F1 μ1 H1 bx1) (h : OkS K CA W F μ H D o) : OkS K CA W F1 μ1 H1 D o := by
  cases o with
  | nx ρ' bx' => exact fun σ' F' μ' H' e' s' n' => h σ' F' μ' H' (e.trans s e') s' n'
  | bk ρ' bx' => exact fun σ' F' μ' H' e' s' n' => h σ' F' μ' H' (e.trans s e') s' n'
  | ct ρ' bx' => exact fun σ' F' μ' H' e' s' n' => h σ' F' μ' H' (e.trans s e') s' n'
  | rt r bx' => exact fun v F' μ' H' e' s' r' => h v F' μ' H' (e.trans s e') s' (r'.ofM e fun a z => e'.sub z)
  | exn c ns ds ρ' bx' => exact fun cls dx σ' F' μ' H' e' s' n' x => h cls dx σ' F' μ' H' (e.trans s e') s' n' x
  | stk => exact h
/-- an expression's result goes on into a statement -/
theorem OkS.seqE {rel : (Addr → Prop) → Hp → α → β → Prop} {o : Out α} {f : α → List DL.D → OutS} {Q : β → Hp → Prop} (s0 : Sx K CA F μ H bx) (n0 : En K CA F μ H ρ σ) (h : OkS K CA W F μ H D (liftE o ρ f))
    (k : ∀ r bx1 v F1 H1, Ext F μ H F1 H1 → Sx K CA F1 μ H1 bx1 → rel F1 H1 r v → OkS K CA W F μ H D (f r bx1) → Q v H1) : OkG K CA W F μ σ H rel o Q := by
  cases o with
  | ok r bx' => exact fun v F' H' e' s' rr => k r bx' v F' H' e' s' rr h
  | exn c ns ds bx' => exact fun cls dx F' H' e' s' x => h cls dx σ F' μ H' e'.m s' (n0.ext s0 e') x
  | stk => exact h
end
/-- the same slots but for some -/
def Agr (is : List Nat) (σ σ' : L2.St) : Prop := σ'.length = σ.length ∧ ∀ j, j ∉ is → σ'[j]? = σ[j]?
theorem Agr.refl {is : List Nat} {σ : L2.St} : Agr is σ σ := ⟨rfl, fun _ _ => rfl⟩
theorem Agr.trans {is js : List Nat} {σ σ' σ'' : L2.St} (h : Agr is σ σ') (h' : Agr js σ' σ'') : Agr (is ++ js) σ σ'' :=
  ⟨h'.1.trans h.1, fun j hj => (h'.2 j fun z => hj (List.mem_append_right _ z)).trans (h.2 j fun z => hj (List.mem_append_left _ z))⟩
theorem Agr.set {σ : L2.St} {i : Nat} {v : Option V} : Agr [i] σ (σ.set i v) := ⟨List.length_set, fun j hj => List.getElem?_set_ne fun e => hj (by simp [e])⟩
section
variable (X : Cx) (CA : Ly) (W : WX)
structure SS (st : Stmt) (m : MS) : Prop where
  ex : ∃ ts, PS X st ts ∧ ∀ ρ bx F μ σ H D, Sx X.K CA F μ H bx → En X.K CA F μ H ρ σ → OkS X.K CA W F μ H D (m ρ bx) → ts D σ H
structure SB (sts : List Stmt) (m : MS) : Prop where
  ex : ∃ ts, PSs X sts ts ∧ ∀ ρ bx F μ σ H D, Sx X.K CA F μ H bx → En X.K CA F μ H ρ σ → OkS X.K CA W F μ H D (m ρ bx) → ts D σ H
/-- a target -/
structure SG (tg : Expr) (is : List Nat) (g : D → Sl → Option Sl) : Prop where
  ex : ∃ t, PG X tg t ∧ ∀ d v ρ bx F μ σ H Q, Sx X.K CA F μ H bx → En X.K CA F μ H ρ σ → Rp X.K CA F μ H d v → (∃ ρ', g d ρ = some ρ' ∧ ∀ σ', En X.K CA F μ H ρ' σ' → Agr is σ σ' → Q σ' H) → t v σ H Q
structure SGs (tgs : List Expr) (is : List Nat) (g : List D → Sl → Option Sl) : Prop where
  ex : ∃ t, PGs X tgs t ∧ ∀ ds vs ρ bx F μ σ H Q, Sx X.K CA F μ H bx → En X.K CA F μ H ρ σ → Rps X.K CA F μ H ds vs → (∃ ρ', g ds ρ = some ρ' ∧ ∀ σ', En X.K CA F μ H ρ' σ' → Agr is σ σ' → Q σ' H) → t vs σ H Q
end
section
variable {X : Cx} {CA : Ly} {W : WX} {e a b c : Expr} {es : List Expr} {pos : Pos} {st : Stmt} {sts : List Stmt}
def mSkip : MS := fun ρ bx => .nx ρ bx
def mSeq (a b : MS) : MS := fun ρ bx => match a ρ bx with
  | .nx ρ' bx' => b ρ' bx'
  | o => o
theorem sb_nil : SB X CA W [] mSkip := ⟨tNext, pss_nil, fun ρ bx F μ σ H D s n o => o σ F μ H ExtM.refl s n⟩
theorem sb_one {m : MS} (h : SS X CA W st m) : SB X CA W [st] m := let ⟨t, h1, h2⟩ := h.ex; ⟨t, pss_one h1, h2⟩
theorem sb_cons {m r : MS} (h : SS X CA W st m) (hr : SB X CA W sts r) : SB X CA W (st :: sts) (mSeq m r) := by
  obtain ⟨t, h1, h2⟩ := h.ex
  obtain ⟨u, r1, r2⟩ := hr.ex
  refine ⟨_, pss_cons h1 r1, fun ρ bx F μ σ H D s n o => h2 ρ bx F μ σ H _ s n ?_⟩
  unfold mSeq at o
  cases q : m ρ bx with
  | nx ρ' bx' =>
    rw [q] at o
    exact fun σ' F' μ' H' e' s' n' => r2 ρ' bx' F' μ' σ' H' D s' n' (OkS.shift e' s' o)
  | bk ρ' bx' => rw [q] at o; exact o
  | ct ρ' bx' => rw [q] at o; exact o
  | rt r bx' => rw [q] at o; exact o
  | exn c ns ds ρ' bx' => rw [q] at o; exact o
  | stk => rw [q] at o; exact o
theorem ss_pass : SS X CA W (.Pass pos) mSkip := ⟨tNext, ps_pass, fun ρ bx F μ σ H D s n o => o σ F μ H ExtM.refl s n⟩
def mBreak : MS := fun ρ bx => .bk ρ bx
def mCont : MS := fun ρ bx => .ct ρ bx
theorem ss_break : SS X CA W (.Break pos) mBreak := ⟨tBreak, ps_break, fun ρ bx F μ σ H D s n o => o σ F μ H ExtM.refl s n⟩
theorem ss_cont : SS X CA W (.Continue pos) mCont := ⟨tCont, ps_continue, fun ρ bx F μ σ H D s n o => o σ F μ H ExtM.refl s n⟩
def mExpr (m : ME) : MS := fun ρ bx => liftE (m ρ bx) ρ fun _ b => .nx ρ b
theorem ss_expr {m : ME} (h : SE X CA W e m) (hs : swapsWith e none pos.line X.env = pure false := by rfl) : SS X CA W (.Expr e pos) (mExpr m) := by
  obtain ⟨t, h1, h2⟩ := h.ex
  exact ⟨_, ps_expr h1 hs, fun ρ bx F μ σ H D s n o => h2 ρ bx F μ σ H _ s n (OkS.seqE s n o fun r b v F1 H1 e1 s1 rr o1 => o1 σ F1 μ H1 e1.m s1 (n.ext s e1))⟩
def mRet (m : ME) : MS := fun ρ bx => liftE (m ρ bx) ρ fun r b => .rt r b
theorem ss_ret {m : ME} (h : SE X CA W e m) : SS X CA W (.Return (some e) pos) (mRet m) := by
  obtain ⟨t, h1, h2⟩ := h.ex
  exact ⟨_, ps_ret h1, fun ρ bx F μ σ H D s n o => h2 ρ bx F μ σ H _ s n (OkS.seqE s n o fun r b v F1 H1 e1 s1 rr o1 => o1 v F1 μ H1 e1.m s1 rr)⟩
def mRetN : MS := fun ρ bx => .rt (.val .non) bx
theorem ss_retN : SS X CA W (.Return none pos) mRetN := ⟨_, ps_retN, fun ρ bx F μ σ H D s n o => o .non F μ H ExtM.refl s rfl⟩
def mIfS (t : MB) (a b : MS) : MS := fun ρ bx => liftE (t ρ bx) ρ fun x b1 => if x then a ρ b1 else b ρ b1
theorem ss_if {mt : MB} {ma mb : MS} {sa sb : List Stmt} (ht : ST X CA W c mt) (ha : SB X CA W sa ma) (hb : SB X CA W sb mb) : SS X CA W (.If c sa sb pos) (mIfS mt ma mb) := by
  obtain ⟨tt, t1, t2⟩ := ht.ex
  obtain ⟨ta, a1, a2⟩ := ha.ex
  obtain ⟨tb, b1, b2⟩ := hb.ex
  refine ⟨_, ps_if t1 a1 b1, fun ρ bx F μ σ H D s n o => t2 ρ bx F μ σ H _ s n (OkS.seqE s n o fun x b1 k F1 H1 e1 s1 ec o1 => ?_)⟩
  subst ec
  cases k with
  | true => exact iteT (a2 ρ b1 F1 μ σ H1 D s1 (n.ext s e1) (OkS.shift e1.m s1 o1))
  | false => exact iteF (b2 ρ b1 F1 μ σ H1 D s1 (n.ext s e1) (OkS.shift e1.m s1 o1))
/-! ### targets -/
def gN (i : Nat) : D → Sl → Option Sl := fun d ρ => some (ρ.set i (some d))
theorem sg_name {i : Nat} {x : Str} (hN : X.N.Nodup) (hi : X.N[i]? = some x := by rfl) (hx : Loc X.env.scope x := by first | exact Or.inl rfl | exact Or.inr rfl) (hf : X.fn x = true ∨ X.env.scope.names.lookup x = some .local := by first | exact .inl rfl | exact .inr rfl) : SG X CA (.Name x pos) [i] (gN i) := by
  refine ⟨_, pg_name hN hi hx hf, fun d v ρ bx F μ σ H Q s n r ⟨ρ', e, k⟩ => ?_⟩
  cases e
  exact k _ (n.set r) Agr.set
def gTs : List (D → Sl → Option Sl) → List D → Sl → Option Sl
  | [], [], ρ => some ρ
  | g :: gs, d :: ds, ρ => (g d ρ).bind fun ρ' => gTs gs ds ρ'
  | _, _, _ => none
def gTup (gs : List (D → Sl → Option Sl)) : D → Sl → Option Sl := fun d ρ => match d with
  | .tup ds => gTs gs ds ρ
  | _ => none
theorem sgs_nil : SGs X CA [] [] (gTs []) := ⟨_, pgs_nil, fun ds vs ρ bx F μ σ H Q s n r ⟨ρ', e, k⟩ => by
  cases ds with
  | nil => cases vs with
    | nil => cases e; exact ⟨rfl, k σ n Agr.refl⟩
    | cons _ _ => exact r.elim
  | cons _ _ => cases e⟩
theorem sgs_cons {is js : List Nat} {g : D → Sl → Option Sl} {gs : List (D → Sl → Option Sl)} (h : SG X CA e is g) (hr : SGs X CA es js (gTs gs)) (hs : (assignEach (e :: es) X.env).map (·.2) = assign e X.env :: (assignEach es X.env).map (·.2) := by rfl) : SGs X CA (e :: es) (is ++ js) (gTs (g :: gs)) := by
  obtain ⟨t, h1, h2⟩ := h.ex
  obtain ⟨u, r1, r2⟩ := hr.ex
  refine ⟨_, pgs_cons h1 r1 hs, fun ds vs ρ bx F μ σ H Q s n r ⟨ρ', e, k⟩ => ?_⟩
  cases ds with
  | nil => cases e
  | cons d ds => cases vs with
    | nil => exact r.elim
    | cons v vs =>
      have e' : ((g d ρ).bind fun ρ' => gTs gs ds ρ') = some ρ' := e
      cases q : g d ρ with
      | none => rw [q] at e'; cases e'
      | some ρ1 =>
        rw [q] at e'
        exact ⟨v, vs, rfl, h2 d v ρ bx F μ σ H _ s n r.1 ⟨ρ1, q, fun σ1 n1 a1 => r2 ds vs ρ1 bx F μ σ1 H Q s n1 r.2 ⟨ρ', e', fun σ2 n2 a2 => k σ2 n2 (a1.trans a2)⟩⟩⟩
theorem gTs_len : ∀ {gs : List (D → Sl → Option Sl)} {ds : List D} {ρ ρ' : Sl}, gTs gs ds ρ = some ρ' → ds.length = gs.length
  | [], [], _, _, _ => rfl
  | [], _ :: _, _, _, h => by cases h
  | _ :: _, [], _, _, h => by cases h
  | g :: gs, d :: ds, ρ, ρ', h => by
    have e' : ((g d ρ).bind fun ρ' => gTs gs ds ρ') = some ρ' := h
    cases q : g d ρ with
    | none => rw [q] at e'; cases e'
    | some ρ1 => rw [q] at e'; exact congrArg Nat.succ (gTs_len e')
theorem sg_tup {is : List Nat} {k : Nat} {gs : List (D → Sl → Option Sl)} (hc : X.calm = true) (h : SGs X CA es is (gTs gs)) (hn : (assignEach es X.env).length = gs.length := by rfl) (hst : (assignEach es X.env).findIdx? (·.1) = none := by rfl) : SG X CA (.Tuple es k pos) is (gTup gs) := by
  obtain ⟨t, h1, h2⟩ := h.ex
  refine ⟨_, pg_tup hc h1 hn hst, fun d v ρ bx F μ σ H Q s n r ⟨ρ', e, k⟩ => ?_⟩
  cases d with
  | tup ds =>
    obtain ⟨p, vs, q1, q2, q3⟩ := r
    subst q1
    exact ⟨p, vs, rfl, q2.sq, by rw [← q3.length]; exact gTs_len e, h2 ds vs ρ bx F μ σ H Q s n q3 ⟨ρ', e, k⟩⟩
  | _ => cases e
def mAsg (m : ME) (g : D → Sl → Option Sl) : MS := fun ρ bx => liftE (m ρ bx) ρ fun r b => match g r.d ρ with
  | some ρ' => .nx ρ' b
  | none => .stk
theorem liftE_map {α β : Type} {o : Out α} {f : α → β} {ρ : Sl} {g : β → List D → OutS} : liftE (o.map f) ρ g = liftE o ρ fun r b => g (f r) b := by cases o <;> rfl
theorem ss_asg {is : List Nat} {m : ME} {g : D → Sl → Option Sl} (h : SE X CA W e m) (hg : SG X CA a is g) (hs : swapsWithSole [a] e pos.line X.env = pure false := by rfl) (hw : swappedStores [a] e X.env = pure none := by rfl)
    (h1 : (assignEach [a] X.env).map (·.2) = [assign a X.env] := by rfl) : SS X CA W (.Assign [a] e pos) (mAsg m g) := by
  obtain ⟨t, t1, t2⟩ := h.dat
  obtain ⟨u, u1, u2⟩ := hg.ex
  refine ⟨_, ps_asg t1 u1 hs hw h1, fun ρ bx F μ σ H D s n o => t2 ρ bx F μ σ H _ s n ?_⟩
  have o' : OkS X.K CA W F μ H D (liftE ((m ρ bx).map R.d) ρ fun d b => match g d ρ with | some ρ' => .nx ρ' b | none => .stk) := by rw [liftE_map]; exact o
  refine OkS.seqE s n o' fun d b v F1 H1 e1 s1 rr o1 => ?_
  cases q : g d ρ with
  | none => rw [q] at o1; exact o1.elim
  | some ρ' =>
    rw [q] at o1
    exact u2 d v ρ b F1 μ σ H1 D.nx s1 (n.ext s e1) rr ⟨ρ', q, fun σ' n' _ => o1 σ' F1 μ H1 e1.m s1 n'⟩
theorem ss_set {m : ME} {i : Nat} {x : Str} {pos' : Pos} (h : SE X CA W e m) (hN : X.N.Nodup) (hi : X.N[i]? = some x := by rfl) (hx : Loc X.env.scope x := by first | exact Or.inl rfl | exact Or.inr rfl) (hs : swapsWith e (some (.Name x pos')) pos.line X.env = pure false := by rfl)
    (hf : X.fn x = true ∨ X.env.scope.names.lookup x = some .local := by first | exact .inl rfl | exact .inr rfl) : SS X CA W (.Assign [.Name x pos'] e pos) (mAsg m (gN i)) := by
  obtain ⟨t, t1, t2⟩ := h.dat
  refine ⟨_, ps_set hN hi hx t1 hs hf, fun ρ bx F μ σ H D s n o => t2 ρ bx F μ σ H _ s n ?_⟩
  have o' : OkS X.K CA W F μ H D (liftE ((m ρ bx).map R.d) ρ fun d b => .nx (ρ.set i (some d)) b) := by rw [liftE_map]; exact o
  exact OkS.seqE s n o' fun d b v F1 H1 e1 s1 rr o1 => o1 _ F1 μ H1 e1.m s1 ((n.ext s e1).set rr)
/-- what is made goes into a box of its own -/
def mBox (m : ME) (i : Nat) : MS := fun ρ bx => liftE (m ρ bx) ρ fun r b => match r with
  | .new d => .nx (ρ.set i (some (.box b.length))) (b ++ [d])
  | .val _ => .stk
theorem Sx.push {K : PySem.W.Frag} {F : Addr → Prop} {μ : List Addr} {H : Hp} {bx : List D} {d : D} {p : Addr} (s : Sx K CA F μ H bx) (hp : p ∉ μ) (hF : ¬ F p) (h : At K CA F μ H d p) : Sx K CA F (μ ++ [p]) H (bx ++ [d]) := by
  have up : ∀ (n : Nat) (a : Addr), μ[n]? = some a → (μ ++ [p])[n]? = some a := fun n a q => by rw [List.getElem?_append_left (List.getElem?_eq_some_iff.mp q).1]; exact q
  refine ⟨by simp [s.len], fun n d' a h1 h2 => ?_, ?_, fun a hm => ?_, s.tr, s.ft, s.tb⟩
  · by_cases hn : n < bx.length
    · rw [List.getElem?_append_left hn] at h1
      rw [List.getElem?_append_left (s.len ▸ hn)] at h2
      exact At.mono (h := s.at_ n d' a h1 h2) (hF := fun _ z => z) (hm := up) (hs := fun _ _ _ z => z) (ha := fun _ z => z)
    · rw [List.getElem?_append_right (Nat.le_of_not_lt hn)] at h1
      rw [List.getElem?_append_right (s.len ▸ Nat.le_of_not_lt hn)] at h2
      have z : n - bx.length = 0 := by
        have := (List.getElem?_eq_some_iff.mp h1).1
        simpa using this
      rw [z] at h1
      rw [← s.len, z] at h2
      cases h1; cases h2
      exact At.mono (h := h) (hF := fun _ z => z) (hm := up) (hs := fun _ _ _ z => z) (ha := fun _ z => z)
  · rw [List.nodup_append]
    refine ⟨s.nd, by simp, fun a h1 b h2 => ?_⟩
    have : b = p := by simpa using h2
    rintro rfl
    exact hp (this ▸ h1)
  · rcases List.mem_append.mp hm with z | z
    · exact s.dj a z
    · have : a = p := by simpa using z
      exact this ▸ hF
theorem ss_box {m : ME} {i : Nat} {x : Str} {pos' : Pos} (h : SE X CA W e m) (hN : X.N.Nodup) (hi : X.N[i]? = some x := by rfl) (hx : Loc X.env.scope x := by first | exact Or.inl rfl | exact Or.inr rfl) (hs : swapsWith e (some (.Name x pos')) pos.line X.env = pure false := by rfl)
    (hf : X.fn x = true ∨ X.env.scope.names.lookup x = some .local := by first | exact .inl rfl | exact .inr rfl) : SS X CA W (.Assign [.Name x pos'] e pos) (mBox m i) := by
  obtain ⟨t, t1, t2⟩ := h.ex
  refine ⟨_, ps_set hN hi hx t1 hs hf, fun ρ bx F μ σ H D s n o => t2 ρ bx F μ σ H _ s n ?_⟩
  refine OkS.seqE s n o fun r b v F1 H1 e1 s1 rr o1 => ?_
  cases r with
  | val d => exact o1.elim
  | new d =>
    obtain ⟨p, q1, q2, q3, q4, q5⟩ := rr
    subst q1
    have s2 := s1.push q3 q4 q5
    have e2 : ExtM F μ H F1 (μ ++ [p]) H1 := ⟨e1.up, e1.fr, e1.keep, [p], rfl, fun b hb => by
      have : b = p := by simpa using hb
      exact this ▸ q2⟩
    have n2 : En X.K CA F1 (μ ++ [p]) H1 ρ σ := n.extM s e2
    refine o1 _ F1 (μ ++ [p]) H1 e2 s2 (n2.set ⟨p, rfl, ?_⟩)
    rw [s1.len]
    simp
end
end DL

set_option Elab.async false
set_option linter.all false
set_option maxRecDepth 100000
set_option maxHeartbeats 4000000
/-! DLG: promises where no repr is under way. -/
namespace DL
open PySem PySem.Spec L2
/-- room, and nothing is being shown -/
structure Room (k : Nat) (A : Around) : Prop extends L2.Room k A where
  gd : A.guards = some []
section
variable {j k : Nat} {A : Around}
theorem Room.mono (r : DL.Room j A) (h : k ≤ j) : DL.Room k A := { L2.Room.mono r.toRoom h with gd := r.gd }
theorem Room.deeper (r : DL.Room (k + 1) A) (x : Env) : DL.Room k (A.deeper x) := { L2.Room.deeper r.toRoom x with gd := r.gd }
theorem Room.in1 (r : DL.Room (k + 1) A) : DL.Room k A.in1 := { L2.Room.in1 r.toRoom with gd := r.gd }
theorem Room.make (r : DL.Room (k + 1) A) (C : Addr) (us : List Value) (kw : List (Str × Value)) : DL.Room k (A.under (.builtin "type.__call__" ⟨.ref C :: us, kw⟩)) :=
  { L2.Room.make r.toRoom C us kw with gd := by rw [show (A.under (.builtin "type.__call__" ⟨.ref C :: us, kw⟩)).guards = A.guards from by first | rfl | simp [Around.under, Code.guards, Code.isGuard, guardIds, pushGuards]]; exact r.gd }
theorem Room.u64 (r : DL.Room k A) : A.units + 64 < cLine := by have := r.un; omega
end
/-- a def's promise by given values -/
def FnR (P : Program) (w : World) (K : PySem.W.Frag) (mg : Str → Option Value) (b0 : Heap) (CX : CXT) (n : Nat) (g : Addr) (sp : Sp) : Prop :=
  ∀ A up s H us ws R E, DL.Room n A → Env0 P w K mg b0 A up s H → Vals ws us → sp ws H R E → codeAny (model P w) A (.call (.ref g) ⟨us, []⟩) (CR CX up P w H s R E) s
/-- .. by what is bound -/
structure FnOk (P : Program) (w : World) (K : PySem.W.Frag) (mg : Str → Option Value) (b0 : Heap) (CX : CXT) (n : Nat) (g : Addr) (fd : FuncData) (ps : List Str) (sp : Sp) : Prop where
  many : ∀ ws H R E, sp ws H R E → ws.length = ps.length
  goes : ∀ A up s H as us ws R E, DL.Room n A → Env0 P w K mg b0 A up s H → BindsTo s fd as (ps.zip us) → Vals ws us → sp ws H R E → codeAny (model P w) A (.call (.ref g) as) (CR CX up P w H s R E) s
section
variable {P : Program} {w : World} {K : PySem.W.Frag} {mg : Str → Option Value} {b0 : Heap} {CX : CXT} {n m : Nat} {g : Addr} {sp sp' : Sp} {fd : FuncData} {ps : List Str}
theorem FnR.mono (F : DL.FnR P w K mg b0 CX n g sp) (h : n ≤ m) : DL.FnR P w K mg b0 CX m g sp := fun A up s H us ws R E r => F A up s H us ws R E (r.mono h)
theorem FnR.imp (F : DL.FnR P w K mg b0 CX n g sp) (h : ∀ ws H R E, sp' ws H R E → sp ws H R E) : DL.FnR P w K mg b0 CX n g sp' := fun A up s H us ws R E r e v q => F A up s H us ws R E r e v (h _ _ _ _ q)
theorem FnOk.raw {ds : List Value} {dv : List V} (F : DL.FnOk P w K mg b0 CX n g fd ps sp) (hb : Binds K fd ps ds) (hd : Vals dv ds) : DL.FnR P w K mg b0 CX n g fun ws H R E => sp (ws ++ dv) H R E := fun A up s H us ws R E r e v q => by
  have v2 := v.append hd
  exact F.goes A up s H _ _ _ R E r e (hb s us (e.mod.kin.keeps fun b o h => (e.bs b o h).1) (v2.length ▸ F.many _ _ _ _ q)) v2 q
/-- a def whose body goes -/
theorem fn_body {x qual : Str} {params : Arguments} {body : List Stmt} {scope : Scope} {dvs : List V} {kws : List (Str × V)} {N : List Str} (F : FunD K x qual params body scope dvs kws g fd) (S : FnScope N ps scope) (many : ∀ ws H R E, sp ws H R E → ws.length = ps.length)
    (hb : ∀ (cv : Value) A up s H ws R E, PySem.W.codeIn K cv qual = true → (∃ oc od dV kV doc pm an ct osl, K.lookup g = some ⟨oc, od, .func (PySem.W.fnOf x qual params body scope dV kV doc pm an cv ct), osl⟩) → DL.Room n (A.deeper (PyProof.Rows.envOfC qual scope s.heap.objs.size g cv)) → sp ws H R E →
      ∃ t, PSs (cxOf CX P w K mg b0 N qual scope g cv A up s H E) body t ∧ t { nx := fun _ H' => R .non H', rt := R } (start N ws) H) : DL.FnOk P w K mg b0 CX (n + 1) g fd ps sp := by
  obtain ⟨oc, od, dV, kV, doc, pm, an, cv, ct, osl, rfl, lk, hcd, _, _⟩ := F.ex
  refine ⟨many, fun A up s H as us ws R E r e bt v q => ?_⟩
  refine StX.run_bnd (G := fun ws' H' => sp ws' H' R E) lk hcd S r.toRoom e (fun A' Ex Q' h => bt _ _ _ _ (h s H ws us e Un.refl rfl (fun _ _ z => z) v (many _ _ _ _ q) q)) fun s2 H2 ws2 q2 _ => ?_
  exact hb cv A up s2 H2 ws2 R E hcd ⟨oc, od, dV, kV, doc, pm, an, ct, osl, lk⟩ (r.deeper _) q2
end
end DL

set_option Elab.async false
set_option linter.all false
set_option maxRecDepth 100000
set_option maxHeartbeats 4000000
/-! DL3: defs and their calls, loops. -/
namespace DL
open PySem PySem.Spec L2
/-! ### what leaves a def -/
mutual
def D.cl (b : Nat) : D → Bool
  | .tup ds => D.cls b ds
  | .lst ds => D.cls b ds
  | .rol ds => D.cls b ds
  | .ins _ _ ds => D.cls b ds
  | .dk _ ds => D.cls b ds
  | .dt _ ds => D.cls b ds
  | .box n => decide (n < b)
  | .non => true
  | .bl _ => true
  | .int _ => true
  | .str _ => true
  | .adr _ => true
  | .ty _ => true
def D.cls (b : Nat) : List D → Bool
  | [] => true
  | d :: ds => d.cl b && D.cls b ds
end
/-- b: how many boxes stood at the entry -/
def leave (b : Nat) (r : R) (bx : List D) : Out R :=
  if bx.length = b then .ok r bx
  else if (bx.take b).all (D.cl b) then match r with
    | .val (.box n) => if n < b then .ok (.val (.box n)) (bx.take b) else match bx[n]? with
      | some d => if d.cl b then .ok (.new d) (bx.take b) else .stk
      | none => .stk
    | .val d => if d.cl b then .ok (.val d) (bx.take b) else .stk
    | .new d => if d.cl b then .ok (.new d) (bx.take b) else .stk
  else .stk
def leaveX (b : Nat) (c : Nat) (ns : List Str) (ds : List D) (bx : List D) : Out R :=
  if bx.length = b then .exn c ns ds bx
  else if (bx.take b).all (D.cl b) && D.cls b ds then .exn c ns ds (bx.take b) else .stk
/-- a def of n slots by its body -/
def body (n : Nat) (m : MS) : MF := fun ds bx => match m (ds.map some ++ List.replicate (n - ds.length) none) bx with
  | .nx _ b => leave bx.length (.val .non) b
  | .rt r b => leave bx.length r b
  | .exn c ns es _ b => leaveX bx.length c ns es b
  | _ => .stk
section
variable {K : PySem.W.Frag} {CA : Ly} {F F' : Addr → Prop} {μ μ' : List Addr} {H H' : Hp} {bx : List D} {b : Nat}
mutual
theorem Rp.cut : ∀ {d : D} {v : V}, d.cl b = true → Rp K CA F μ H d v → Rp K CA F (μ.take b) H d v
  | .non, _, _, h => h
  | .bl _, _, _, h => h
  | .int _, _, _, h => h
  | .str _, _, _, h => h
  | .adr _, _, _, h => h
  | .ty _, _, _, h => h
  | .box n, _, c, h => let ⟨a, e, q⟩ := h; ⟨a, e, by
      have : n < b := of_decide_eq_true c
      rw [List.getElem?_take_of_lt this]; exact q⟩
  | .tup _, _, c, h => let ⟨a, vs, e, t, r⟩ := h; ⟨a, vs, e, t, Rps.cut c r⟩
  | .lst _, _, c, h => let ⟨a, vs, e, t, r⟩ := h; ⟨a, vs, e, t, Rps.cut c r⟩
  | .rol _, _, c, h => let ⟨a, vs, e, t, r⟩ := h; ⟨a, vs, e, t, Rps.cut c r⟩
  | .ins _ _ _, _, c, h => let ⟨a, dx, vs, e, f, t, l, r⟩ := h; ⟨a, dx, vs, e, f, t, l, Rps.cut c r⟩
  | .dk _ _, _, c, h => let ⟨a, vs, e, f, t, l, r⟩ := h; ⟨a, vs, e, f, t, l, Rps.cut c r⟩
  | .dt _ _, _, c, h => let ⟨a, vs, e, f, t, l, r⟩ := h; ⟨a, vs, e, f, t, l, Rps.cut c r⟩
theorem Rps.cut : ∀ {ds : List D} {vs : List V}, D.cls b ds = true → Rps K CA F μ H ds vs → Rps K CA F (μ.take b) H ds vs
  | [], [], _, _ => trivial
  | d :: ds, v :: vs, c, h => by
    have c' : (d.cl b && D.cls b ds) = true := c
    exact ⟨Rp.cut (Bool.and_eq_true_iff.mp c').1 h.1, Rps.cut (Bool.and_eq_true_iff.mp c').2 h.2⟩
  | [], _ :: _, _, h => h.elim
  | _ :: _, [], _, h => h.elim
end
theorem At.cut {d : D} {a : Addr} (c : d.cl b = true) (h : At K CA F μ H d a) : At K CA F (μ.take b) H d a := by
  cases d with
  | lst ds => obtain ⟨vs, e, r⟩ := h; exact ⟨vs, e, r.cut c⟩
  | ins k ns ds => obtain ⟨dx, vs, e, l, r⟩ := h; exact ⟨dx, vs, e, l, r.cut c⟩
  | dk ks ds => obtain ⟨vs, e, l, r⟩ := h; exact ⟨vs, e, l, r.cut c⟩
  | dt ks ds => obtain ⟨vs, e, l, r⟩ := h; exact ⟨vs, e, l, r.cut c⟩
  | _ => exact h.elim
theorem Sx.cut (s : Sx K CA F μ H bx) (c : (bx.take b).all (D.cl b) = true) : Sx K CA F (μ.take b) H (bx.take b) := by
  refine ⟨by simp [s.len], fun n d a h1 h2 => ?_, s.nd.sublist (List.take_sublist _ _), fun a hm => s.dj a (List.mem_of_mem_take hm), s.tr, s.ft, s.tb⟩
  have hn : n < b := by
    have := (List.getElem?_eq_some_iff.mp h1).1
    rw [List.length_take] at this; omega
  have cd : d.cl b = true := List.all_eq_true.mp c d (List.mem_of_getElem? h1)
  rw [List.getElem?_take_of_lt hn] at h1 h2
  exact (s.at_ n d a h1 h2).cut cd
end

/-! ### a def's promise -/
/-- of n arguments -/
def ar (n : Nat) (mf : MF) : MF := fun ds bx => if ds.length = n then mf ds bx else .stk
def spM (K : PySem.W.Frag) (CA : Ly) (n : Nat) (mf : MF) : Sp := fun vs H Q E => ∃ ds bx F μ, Rps K CA F μ H ds vs ∧ Sx K CA F μ H bx ∧ OkG K CA (fun cls d _ H => E cls d H) F μ [] H (fun F' H' => RRv K CA F' μ H H') (ar n mf ds bx) Q
theorem spM.len {K : PySem.W.Frag} {CA : Ly} {n : Nat} {mf : MF} {vs : List V} {H : Hp} {Q : VK} {E : XK} (h : spM K CA n mf vs H Q E) : vs.length = n := by
  obtain ⟨ds, bx, F, μ, r, _, o⟩ := h
  rw [← r.length]
  unfold ar at o
  by_cases l : ds.length = n
  · exact l
  · rw [if_neg l] at o; exact o.elim
/-- what a body may lean on -/
structure Frm (X : Cx) (W : WX) : Prop where
  tk : Takes X W
  po : PassesOwn (model X.prog X.w) X.A X.env X.xe
  calm : X.calm = true
theorem start_len {N : List Str} {vs : List V} (h : vs.length ≤ N.length) : (L2.start N vs).length = N.length := by
  unfold L2.start
  rw [List.length_append, List.length_map, List.length_replicate]; omega
section
variable {P : Program} {w : World} {K : PySem.W.Frag} {mg : Str → Option Value} {base : Heap} {CA : Ly}
theorem body_ok {N : List Str} {qual : Str} {scope : Scope} {f : Addr} {cdv : Value} {A : Around} {outer : List Env} {s : Shared} {H : Hp} {vs : List V} {Q : VK} {E : XK} {n : Nat} {st : List Stmt} {ms : MS} (hn : n ≤ N.length)
    (hb : SB (cxOf (L2.CX P w) P w K mg base N qual scope f cdv A outer s H E) CA (fun cls d _ H => E cls d H) st ms) (h : spM K CA n (body N.length ms) vs H Q E) :
    ∃ t, PSs (cxOf (L2.CX P w) P w K mg base N qual scope f cdv A outer s H E) st t ∧ t { nx := fun _ H' => Q .non H', rt := Q } (L2.start N vs) H := by
  have hl := h.len
  obtain ⟨ds, bx, F, μ, r, sx, o⟩ := h
  have l : ds.length = n := r.length.trans hl
  unfold ar at o
  rw [if_pos l] at o
  obtain ⟨t, h1, h2⟩ := hb.ex
  refine ⟨t, h1, h2 (ds.map some ++ List.replicate (N.length - ds.length) none) bx F μ _ H _ sx ?_ ?_⟩
  · refine ⟨?_, fun i d q => ?_⟩
    · rw [start_len (by rw [hl]; exact hn)]
      simp only [List.length_append, List.length_map, List.length_replicate]; omega
    · have hi : i < ds.length := by
        by_cases hi : i < ds.length
        · exact hi
        · rw [List.getElem?_append_right (by simpa using hi), List.getElem?_replicate] at q
          split at q <;> cases q
      rw [List.getElem?_append_left (by simpa using hi), List.getElem?_map] at q
      cases q2 : ds[i]? with
      | none => rw [q2] at q; cases q
      | some d' =>
        rw [q2] at q
        obtain ⟨v, v1, v2⟩ := r.get q2
        have : d' = d := by simpa using q
        subst this
        refine ⟨v, ?_, v2⟩
        unfold L2.start
        rw [List.getElem?_append_left (by simpa using (List.getElem?_eq_some_iff.mp v1).1), List.getElem?_map, v1]
        rfl
  · have bl : bx.length = μ.length := sx.len
    have cutM : ∀ {μ' F' H'}, ExtM F μ H F' μ' H' → μ'.take bx.length = μ := fun {μ' F' H'} e => by
      obtain ⟨ν, e1, _⟩ := e.mu
      rw [e1, bl, List.take_left']; rfl
    have toE : ∀ {μ' F' H'}, ExtM F μ H F' μ' H' → Ext F μ H F' H' := fun e => ⟨e.up, e.fr, e.keep⟩
    have same : ∀ {μ' F' H' b'}, ExtM F μ H F' μ' H' → Sx K CA F' μ' H' b' → b'.length = bx.length → μ' = μ := fun {μ' F' H' b'} e s e2 => by
      obtain ⟨ν, e1, _⟩ := e.mu
      have := s.len
      rw [e1, List.length_append, e2, bl] at this
      have : ν = [] := List.length_eq_zero_iff.mp (by omega)
      rw [e1, this, List.append_nil]
    -- what is returned
    have ret : ∀ (q : R) (b' : List D) (v : V) (F' : Addr → Prop) (μ' : List Addr) (H' : Hp), OkG K CA (fun cls d _ H => E cls d H) F μ [] H (fun F' H' => RRv K CA F' μ H H') (leave bx.length q b') Q →
        ExtM F μ H F' μ' H' → Sx K CA F' μ' H' b' → RRv K CA F' μ' H H' q v → Q v H' := by
      intro q b' v F' μ' H' o' e' s' r'
      unfold leave at o'
      by_cases e0 : b'.length = bx.length
      · rw [if_pos e0] at o'
        have := same e' s' e0
        subst this
        exact o' v F' H' (toE e') s' r'
      · rw [if_neg e0] at o'
        by_cases e1 : ((b'.take bx.length).all (D.cl bx.length)) = true
        · rw [if_pos e1] at o'
          have s2 := s'.cut e1
          rw [cutM e'] at s2
          cases q with
          | new d =>
            by_cases c : d.cl bx.length = true
            · simp only [c, if_true] at o'
              obtain ⟨a, a1, a2, a3, a4, a5⟩ := r'
              have a5' := a5.cut c
              rw [cutM e'] at a5'
              exact o' v F' H' (toE e') s2 ⟨a, a1, a2, fun z => a3 (e'.sub z), a4, a5'⟩
            · simp only [c, Bool.false_eq_true, if_false] at o'; exact o'.elim
          | val d =>
            have gen : (d.cl bx.length = true → Q v H') := fun c => by
              have r2 := Rp.cut c r'
              rw [cutM e'] at r2
              cases d with
              | box n =>
                have hn : n < bx.length := of_decide_eq_true c
                simp only [if_pos hn] at o'
                exact o' v F' H' (toE e') s2 r2
              | _ => simp only [c, if_true] at o'; exact o' v F' H' (toE e') s2 r2
            by_cases c : d.cl bx.length = true
            · exact gen c
            · cases d with
              | box n =>
                have hn : ¬ n < bx.length := fun z => c (decide_eq_true z)
                simp only [if_neg hn] at o'
                obtain ⟨a, a1, a2⟩ := r'
                cases q : b'[n]? with
                | none => rw [q] at o'; exact o'.elim
                | some d =>
                  rw [q] at o'
                  by_cases c2 : d.cl bx.length = true
                  · simp only [c2, if_true] at o'
                    have am : a ∈ μ' := List.mem_of_getElem? a2
                    have fresh : Vac H a ∧ a ∉ μ := by
                      obtain ⟨ν, e1, e2⟩ := e'.mu
                      rw [e1, List.getElem?_append_right (bl ▸ Nat.le_of_not_lt hn)] at a2
                      have hν := List.mem_of_getElem? a2
                      refine ⟨e2 a hν, fun z => ?_⟩
                      obtain ⟨u, hu, nu⟩ := sx.boxN z
                      exact e2 a hν u hu nu
                    have a5' := (s'.at_ n d a q a2).cut c2
                    rw [cutM e'] at a5'
                    exact o' v F' H' (toE e') s2 ⟨a, a1, fresh.1, fresh.2, s'.dj a am, a5'⟩
                  · simp only [c2, Bool.false_eq_true, if_false] at o'; exact o'.elim
              | _ => simp only [c, Bool.false_eq_true, if_false] at o'; exact o'.elim
        · rw [if_neg e1] at o'; exact o'.elim
    unfold body at o
    cases q : ms (ds.map some ++ List.replicate (N.length - ds.length) none) bx with
    | nx ρ' b' =>
      rw [q] at o
      exact fun σ' F' μ' H' e' s' n' => ret (.val .non) b' .non F' μ' H' o e' s' rfl
    | rt r b' =>
      rw [q] at o
      exact fun v F' μ' H' e' s' r' => ret r b' v F' μ' H' o e' s' r'
    | bk ρ' b' => rw [q] at o; exact o.elim
    | ct ρ' b' => rw [q] at o; exact o.elim
    | stk => rw [q] at o; exact o.elim
    | exn c ns es ρ' b' =>
      rw [q] at o
      intro cls dx σ' F' μ' H' e' s' n' x'
      have o' : OkG K CA (fun cls d _ H => E cls d H) F μ [] H (fun F' H' => RRv K CA F' μ H H') (leaveX bx.length c ns es b') Q := o
      unfold leaveX at o'
      by_cases e0 : b'.length = bx.length
      · rw [if_pos e0] at o'
        have := same e' s' e0
        subst this
        exact o' cls dx F' H' (toE e') s' x'
      · rw [if_neg e0] at o'
        by_cases e1 : ((b'.take bx.length).all (D.cl bx.length) && D.cls bx.length es) = true
        · rw [if_pos e1] at o'
          obtain ⟨c1, c2⟩ := Bool.and_eq_true_iff.mp e1
          have s2 := s'.cut c1
          rw [cutM e'] at s2
          obtain ⟨x1, a, vs', x2, x3, x4, x5⟩ := x'
          have x6 := x5.cut c2
          rw [cutM e'] at x6
          exact o' cls dx F' H' (toE e') s2 ⟨x1, a, vs', x2, x3, x4, x6⟩
        · rw [if_neg e1] at o'; exact o'.elim
/-- THE RULE for a def -/
theorem sf_of {x qual : Str} {params : Arguments} {st : List Stmt} {scope : Scope} {dvs : List V} {kws : List (Str × V)} {f : Addr} {fd : FuncData} {N ps : List Str} {k : Nat} {ms : MS} (F : FunD K x qual params st scope dvs kws f fd) (S : FnScope N ps scope)
    (hb : ∀ (cdv : Value) (A : Around) (outer : List Env) (s : Shared) (H : Hp) (E : XK), Room k (A.deeper (PyProof.Rows.envOfC qual scope s.heap.objs.size f cdv)) → Frm (cxOf (L2.CX P w) P w K mg base N qual scope f cdv A outer s H E) (fun cls d _ H => E cls d H) →
      SB (cxOf (L2.CX P w) P w K mg base N qual scope f cdv A outer s H E) CA (fun cls d _ H => E cls d H) st ms) :
    FnOk P w K mg base (L2.CX P w) (k + 1) f fd ps (spM K CA ps.length (body N.length ms)) := by
  have hpl : ps.length ≤ N.length := by have := congrArg List.length S.pre; rw [List.length_take] at this; omega
  refine fn_body F S (fun vs H Q E h => h.len) fun cdv A outer s H vs Q E _ _ hr h => ?_
  exact body_ok hpl (hb cdv A outer s H E hr ⟨takes_of rfl rfl rfl rfl, passes_of rfl, rfl⟩) h
end

/-! ### calls -/
theorem OkG.wish {K : PySem.W.Frag} {CA : Ly} {W : WX} {F : Addr → Prop} {μ : List Addr} {σ : L2.St} {H : Hp} {α β : Type} {rel : (Addr → Prop) → Hp → α → β → Prop} {o : Out α} {Q : β → Hp → Prop} (h : OkG K CA W F μ σ H rel o Q) :
    OkG K CA (fun cls d _ H => W cls d σ H) F μ [] H rel o Q := by
  cases o with
  | ok r bx => exact h
  | exn c ns ds bx => exact h
  | stk => exact h
section
variable {X : Cx} {CA : Ly} {W : WX} {e a b c : Expr} {es : List Expr} {pos p : Pos} {k n : Nat} {f : Addr} {fd : FuncData} {ps : List Str} {x : Str}
def mCall (n : Nat) (mf : MF) (a : MA) : ME := fun ρ bx => (a ρ bx).bind fun ds b => ar n mf ds b
end
end DL

set_option Elab.async false
set_option linter.all false
set_option maxRecDepth 100000
set_option maxHeartbeats 4000000
/-! DL4: loops. -/
namespace DL
open PySem PySem.Spec L2
/-! ### while -/
def mWhile (t : MB) (m : MS) : Nat → MS
  | 0 => fun _ _ => .stk
  | k + 1 => fun ρ bx => liftE (t ρ bx) ρ fun x b => if x then (match m ρ b with
    | .nx ρ' b' => mWhile t m k ρ' b'
    | .ct ρ' b' => mWhile t m k ρ' b'
    | .bk ρ' b' => .nx ρ' b'
    | o => o) else .nx ρ b
section
variable {X : Cx} {CA : Ly} {W : WX} {e c tg iter : Expr} {es : List Expr} {pos : Pos} {sts : List Stmt}
theorem ss_while (k : Nat) {mt : MB} {m : MS} (hF : Frm X W) (ht : ST X CA W c mt) (hb : SB X CA W sts m) : SS X CA W (.While c sts [] pos) (mWhile mt m k) := by
  obtain ⟨tt, t1, t2⟩ := ht.ex
  obtain ⟨tb, b1, b2⟩ := hb.ex
  refine ⟨_, ps_while hF.po t1 b1, fun ρ bx F μ σ H D s n o => ?_⟩
  refine ⟨fun j σ' H' => ∃ ρ' bx' F' μ', Sx X.K CA F' μ' H' bx' ∧ En X.K CA F' μ' H' ρ' σ' ∧ OkS X.K CA W F' μ' H' D (mWhile mt m j ρ' bx'), ⟨k, ρ, bx, F, μ, s, n, o⟩, ?_⟩
  rintro j σ1 H1 ⟨ρ1, bx1, F1, μ1, s1, n1, o1⟩
  cases j with
  | zero => exact o1.elim
  | succ j =>
    refine t2 ρ1 bx1 F1 μ1 σ1 H1 _ s1 n1 (OkS.seqE s1 n1 o1 fun x b2' v F2 H2 e2 s2 ev o2 => ?_)
    subst ev
    cases v with
    | false => exact iteF (o2 σ1 F2 μ1 H2 e2.m s2 (n1.ext s1 e2))
    | true =>
      have n2 := n1.ext s1 e2
      refine iteT ⟨fun σ' H' => ∃ ρ' bx' F' μ', Sx X.K CA F' μ' H' bx' ∧ En X.K CA F' μ' H' ρ' σ' ∧ OkS X.K CA W F' μ' H' D (mWhile mt m j ρ' bx'), fun σ' H' h => ⟨j, Nat.lt_succ_self j, h⟩, ?_⟩
      refine b2 ρ1 b2' F2 μ1 σ1 H2 _ s2 n2 ?_
      have o3 : OkS X.K CA W F2 μ1 H2 D (match m ρ1 b2' with
        | .nx ρ' b' => mWhile mt m j ρ' b'
        | .ct ρ' b' => mWhile mt m j ρ' b'
        | .bk ρ' b' => .nx ρ' b'
        | o => o) := OkS.shift e2.m s2 o2
      cases q : m ρ1 b2' with
      | nx ρ' b' => rw [q] at o3; exact fun σ' F' μ' H' e' s' n' => ⟨ρ', b', F', μ', s', n', OkS.shift e' s' o3⟩
      | ct ρ' b' => rw [q] at o3; exact fun σ' F' μ' H' e' s' n' => ⟨ρ', b', F', μ', s', n', OkS.shift e' s' o3⟩
      | bk ρ' b' => rw [q] at o3; exact o3
      | rt r b' => rw [q] at o3; exact o3
      | exn c ns ds ρ' b' => rw [q] at o3; exact o3
      | stk => rw [q] at o3; exact o3

/-! ### for -/
abbrev MI := Sl → List D → Out (List D)
def loop (g : D → Sl → Option Sl) (m : MS) : List D → MS
  | [] => fun ρ bx => .nx ρ bx
  | d :: ds => fun ρ bx => match g d ρ with
    | none => .stk
    | some ρ1 => match m ρ1 bx with
      | .nx ρ' b' => loop g m ds ρ' b'
      | .ct ρ' b' => loop g m ds ρ' b'
      | .bk ρ' b' => .nx ρ' b'
      | o => o
def mFor (mi : MI) (g : D → Sl → Option Sl) (m : MS) : MS := fun ρ bx => liftE (mi ρ bx) ρ fun ds b => loop g m ds ρ b
/-- the iterator walks these, whatever else happens -/
def Wk (K : PySem.W.Frag) (CA : Ly) (J : It) (F : Addr → Prop) (μ : List Addr) (H : Hp) (ds : List D) : Prop :=
  ∀ i F2 μ2 H2 bx2, ExtM F μ H F2 μ2 H2 → Sx K CA F2 μ2 H2 bx2 →
    (∀ d, ds[i]? = some d → J.go i H2 ∧ ∀ x H', J.yld i H2 x H' → ∃ F3, Ext F2 μ2 H2 F3 H' ∧ Sx K CA F3 μ2 H' bx2 ∧ Rp K CA F3 μ2 H' d x) ∧ (i = ds.length → J.stop i H2)
variable (X CA W) in
structure SI (tg iter : Expr) (mi : MI) : Prop where
  ex : ∃ wi, PI X tg iter wi ∧ ∀ ρ bx F μ σ H R, Sx X.K CA F μ H bx → En X.K CA F μ H ρ σ → (match mi ρ bx with
    | .ok ds b => ∀ J F1 H1, Ext F μ H F1 H1 → Sx X.K CA F1 μ H1 b → Wk X.K CA J F1 μ H1 ds → R J H1
    | .exn c ns ds b => ∀ cls dx F' H', Ext F μ H F' H' → Sx X.K CA F' μ H' b → ExAt X.K CA F' μ H' c ns ds cls dx → W cls dx σ H'
    | .stk => False) → wi σ H R
theorem loop_ok {g : D → Sl → Option Sl} {m : MS} {tgr : TG} {tb : TS} {D : Ends} {J : It} {ds : List DL.D} {F1 : Addr → Prop} {μ1 : List Addr} {H1 : Hp} {b : List DL.D}
    {is : List Nat} (hg : ∀ d v ρ bx F μ σ H Q, Sx X.K CA F μ H bx → En X.K CA F μ H ρ σ → Rp X.K CA F μ H d v → (∃ ρ', g d ρ = some ρ' ∧ ∀ σ', En X.K CA F μ H ρ' σ' → Agr is σ σ' → Q σ' H) → tgr v σ H Q)
    (hb : ∀ ρ bx F μ σ H D, Sx X.K CA F μ H bx → En X.K CA F μ H ρ σ → OkS X.K CA W F μ H D (m ρ bx) → tb D σ H)
    (s1 : Sx X.K CA F1 μ1 H1 b) (wk : Wk X.K CA J F1 μ1 H1 ds) {ρ : Sl} {σ : L2.St} (n1 : En X.K CA F1 μ1 H1 ρ σ) (o : OkS X.K CA W F1 μ1 H1 D (loop g m ds ρ b)) :
    ∃ Wi : Nat → Nat → L2.St → Hp → Prop, (∃ m, Wi 0 m σ H1) ∧ ∀ i m σ H, Wi i m σ H →
      (J.stop i H ∧ D.nx σ H) ∨ (J.go i H ∧ ∃ N : L2.St → Hp → Prop, (∀ σ' H', N σ' H' → ∃ m', m' < m ∧ Wi (i + 1) m' σ' H') ∧ ∀ x H', J.yld i H x H' → tgr x σ H' fun σ2 H2 => tb { D with nx := N, ct := N, bk := D.nx } σ2 H2) := by
  let P : Nat → L2.St → Hp → Prop := fun i σ' H' => i ≤ ds.length ∧ ∃ ρ' bx' F' μ', ExtM F1 μ1 H1 F' μ' H' ∧ Sx X.K CA F' μ' H' bx' ∧ En X.K CA F' μ' H' ρ' σ' ∧ OkS X.K CA W F' μ' H' D (loop g m (ds.drop i) ρ' bx')
  refine ⟨fun i m σ' H' => m = ds.length - i ∧ P i σ' H', ⟨_, rfl, Nat.zero_le _, ρ, b, F1, μ1, ExtM.refl, s1, n1, o⟩, ?_⟩
  rintro i m' σ2 H2 ⟨rfl, hi, ρ2, bx2, F2, μ2, e2, s2, n2, o2⟩
  obtain ⟨w1, w2⟩ := wk i F2 μ2 H2 bx2 e2 s2
  by_cases hl : i = ds.length
  · refine .inl ⟨w2 hl, ?_⟩
    rw [hl, List.drop_length] at o2
    exact o2 σ2 F2 μ2 H2 ExtM.refl s2 n2
  · have hlt : i < ds.length := Nat.lt_of_le_of_ne hi hl
    obtain ⟨go, yl⟩ := w1 _ (List.getElem?_eq_getElem hlt)
    refine .inr ⟨go, P (i + 1), fun σ' H' p => ⟨ds.length - (i + 1), by omega, rfl, p⟩, fun x H3 y => ?_⟩
    obtain ⟨F3, e3, s3, r3⟩ := yl x H3 y
    rw [List.drop_eq_getElem_cons hlt] at o2
    have n3 := n2.ext s2 e3
    have o3 := OkS.shift e3.m s3 o2
    unfold loop at o3
    cases q : g ds[i] ρ2 with
    | none => rw [q] at o3; exact o3.elim
    | some ρ3 =>
      rw [q] at o3
      refine hg _ x ρ2 bx2 F3 μ2 σ2 H3 _ s3 n3 r3 ⟨ρ3, q, fun σ4 n4 _ => ?_⟩
      refine hb ρ3 bx2 F3 μ2 σ4 H3 _ s3 n4 ?_
      have fin : ∀ {ρ' : Sl} {b' : List DL.D}, OkS X.K CA W F3 μ2 H3 D (loop g m (ds.drop (i + 1)) ρ' b') → ∀ σ' F' μ' H', ExtM F3 μ2 H3 F' μ' H' → Sx X.K CA F' μ' H' b' → En X.K CA F' μ' H' ρ' σ' → P (i + 1) σ' H' :=
        fun {ρ' b'} o4 σ' F' μ' H' e' s' n' => ⟨hlt, ρ', b', F', μ', e2.trans s2 (e3.m.trans s3 e'), s', n', OkS.shift e' s' o4⟩
      cases q2 : m ρ3 bx2 with
      | nx ρ' b' => simp only [q2] at o3; exact fin o3
      | ct ρ' b' => simp only [q2] at o3; exact fin o3
      | bk ρ' b' => simp only [q2] at o3; exact o3
      | rt r b' => simp only [q2] at o3; exact o3
      | exn c ns ds ρ' b' => simp only [q2] at o3; exact o3
      | stk => simp only [q2] at o3; exact o3
theorem ss_for {is : List Nat} {mi : MI} {g : D → Sl → Option Sl} {m : MS} (hF : Frm X W) (hi : SI X CA W tg iter mi) (hg : SG X CA tg is g) (hb : SB X CA W sts m) (hs : ∀ x, foldedSetIterable iter X.env x = pure x := by intro _; rfl) : SS X CA W (.For tg iter sts [] pos) (mFor mi g m) := by
  obtain ⟨wi, i1, i2⟩ := hi.ex
  obtain ⟨tg', g1, g2⟩ := hg.ex
  obtain ⟨tb, b1, b2⟩ := hb.ex
  refine ⟨_, ps_for hF.po hF.calm i1 g1 b1 hs, fun ρ bx F μ σ H D s n o => i2 ρ bx F μ σ H _ s n ?_⟩
  have o' : OkS X.K CA W F μ H D (liftE (mi ρ bx) ρ fun ds b => loop g m ds ρ b) := o
  cases q : mi ρ bx with
  | stk => rw [q] at o'; exact o'
  | exn c ns ds b => rw [q] at o'; exact fun cls dx F' H' e' s' x => o' cls dx σ F' μ H' e'.m s' (n.ext s e') x
  | ok ds b =>
    rw [q] at o'
    intro J F1 H1 e1 s1 wk
    exact loop_ok g2 b2 s1 wk (n.ext s e1) (OkS.shift e1.m s1 o')

/-! ### what is walked -/
theorem pi_or {w w' : TI} (h : PI X tg iter w) (h' : PI X tg iter w') : PI X tg iter (fun σ H R => w σ H R ∨ w' σ H R) :=
  ⟨fun pins s σ H R I q => q.elim (h.run pins s σ H R I) (h'.run pins s σ H R I)⟩
def D.it : D → Option (List D)
  | .tup ds => some ds
  | .lst ds => some ds
  | .rol ds => some ds
  | _ => none
def iSeq (m : ME) : MI := fun ρ bx => (m ρ bx).bind fun r b => match r.d.it with
  | some ds => .ok ds b
  | none => .stk
theorem Rp.seq {K : PySem.W.Frag} {CA : Ly} {F : Addr → Prop} {μ : List Addr} {H : Hp} {d : D} {v : V} {ds : List D} (h : Rp K CA F μ H d v) (e : d.it = some ds) :
    ∃ a vs, v = .ref a ∧ Rps K CA F μ H ds vs ∧ ((∀ (F' : Addr → Prop) (H' : Hp), (∀ a, F a → F' a) → Stay F H H' → SqT K H' a vs) ∨ ∀ (F' : Addr → Prop) (H' : Hp), (∀ a, F a → F' a) → Stay F H H' → SqL K H' a vs) := by
  cases d with
  | tup xs =>
    obtain ⟨a, vs, q1, q2, q3⟩ := h
    cases e
    exact ⟨a, vs, q1, q3, .inl fun F' H' hF hs => (q2.mono hF hs).sq⟩
  | lst xs =>
    obtain ⟨a, vs, q1, q2, q3⟩ := h
    cases e
    exact ⟨a, vs, q1, q3, .inr fun F' H' hF hs => (q2.mono hF hs).sq⟩
  | rol xs =>
    obtain ⟨a, vs, q1, q2, q3⟩ := h
    cases e
    exact ⟨a, vs, q1, q3, .inr fun F' H' hF hs => (q2.mono hF hs).sq⟩
  | _ => cases e
theorem si_seq {m : ME} (h : SE X CA W iter m) : SI X CA W tg iter (iSeq m) := by
  obtain ⟨te, t1, t2⟩ := h.dat
  refine ⟨_, pi_or (pi_list t1) (pi_tup t1), fun ρ bx F μ σ H R s n o => ?_⟩
  have key : ∀ Q : VK, (∀ d b1 v F1 H1 ds, Ext F μ H F1 H1 → Sx X.K CA F1 μ H1 b1 → Rp X.K CA F1 μ H1 d v → d.it = some ds → iSeq m ρ bx = .ok ds b1 → Q v H1) → te σ H Q := by
    intro Q k
    refine t2 ρ bx F μ σ H Q s n ?_
    unfold iSeq at o k
    cases q : m ρ bx with
    | ok r b =>
      rw [q] at o k
      intro v F' H' e' s' rr
      cases q2 : r.d.it with
      | none => simp only [Out.bind_ok, q2] at o
      | some ds => exact k r.d b v F' H' ds e' s' rr q2 (by simp only [Out.bind_ok, q2])
    | exn c ns ds b => rw [q] at o; exact o
    | stk => rw [q] at o; exact o
  cases q : m ρ bx with
  | stk => unfold iSeq at o; rw [q] at o; exact o.elim
  | exn c ns es b =>
    refine .inl (key _ fun d b1 v F1 H1 ds e1 s1 rr hd hk => ?_)
    unfold iSeq at hk; rw [q] at hk; cases hk
  | ok r b0 =>
    have mk : ∀ {d : D} {b1 : List D} {v : V} {F1 : Addr → Prop} {H1 : Hp} {ds : List D}, iSeq m ρ bx = .ok ds b1 → d = r.d ∧ b1 = b0 → True := fun _ _ => trivial
    cases hd : r.d.it with
    | none => unfold iSeq at o; simp only [q, Out.bind_ok, hd] at o
    | some ds0 =>
      have hi : iSeq m ρ bx = .ok ds0 b0 := by unfold iSeq; simp only [q, Out.bind_ok, hd]
      rw [hi] at o
      have key2 : ∀ Q : VK, (∀ v F1 H1, Ext F μ H F1 H1 → Sx X.K CA F1 μ H1 b0 → Rp X.K CA F1 μ H1 r.d v → Q v H1) → te σ H Q := fun Q k => t2 ρ bx F μ σ H Q s n (by rw [q]; exact fun v F' H' e' s' rr => k v F' H' e' s' rr)
      cases rd : r.d with
      | tup xs =>
        rw [rd] at hd; cases hd
        refine .inr (key2 _ fun v F1 H1 e1 s1 rr => ?_)
        rw [rd] at rr
        obtain ⟨a, vs, q1, q2, q3⟩ := rr
        refine ⟨a, q1, ⟨vs, q2.sq⟩, o _ F1 H1 e1 s1 fun i F2 μ2 H2 bx2 e2 s2 => ?_⟩
        have q4 : SqT X.K H2 a vs := (q2.mono e2.up (s1.stayM e2)).sq
        refine ⟨fun d hd => ?_, fun hd => ⟨vs, q4, by rw [hd, q3.length]; exact Nat.le_refl _⟩⟩
        obtain ⟨v', v1, v2⟩ := q3.get hd
        refine ⟨⟨vs, v', q4, v1⟩, fun x H' y => ?_⟩
        obtain ⟨rfl, y2⟩ := y
        refine ⟨F2, Ext.refl, s2, ?_⟩
        have := y2 vs q4
        rw [v1] at this; cases this
        exact v2.extM s1 e2
      | lst xs =>
        rw [rd] at hd; cases hd
        refine .inl (key2 _ fun v F1 H1 e1 s1 rr => ?_)
        rw [rd] at rr
        obtain ⟨a, vs, q1, q2, q3⟩ := rr
        refine ⟨a, q1, ⟨vs, q2.sq⟩, o _ F1 H1 e1 s1 fun i F2 μ2 H2 bx2 e2 s2 => ?_⟩
        have q4 : SqL X.K H2 a vs := (q2.mono e2.up (s1.stayM e2)).sq
        refine ⟨fun d hd => ?_, fun hd => ⟨vs, q4, by rw [hd, q3.length]; exact Nat.le_refl _⟩⟩
        obtain ⟨v', v1, v2⟩ := q3.get hd
        refine ⟨⟨vs, v', q4, v1⟩, fun x H' y => ?_⟩
        obtain ⟨rfl, y2⟩ := y
        refine ⟨F2, Ext.refl, s2, ?_⟩
        have := y2 vs q4
        rw [v1] at this; cases this
        exact v2.extM s1 e2
      | rol xs =>
        rw [rd] at hd; cases hd
        refine .inl (key2 _ fun v F1 H1 e1 s1 rr => ?_)
        rw [rd] at rr
        obtain ⟨a, vs, q1, q2, q3⟩ := rr
        refine ⟨a, q1, ⟨vs, q2.sq⟩, o _ F1 H1 e1 s1 fun i F2 μ2 H2 bx2 e2 s2 => ?_⟩
        have q4 : SqL X.K H2 a vs := (q2.mono e2.up (s1.stayM e2)).sq
        refine ⟨fun d hd => ?_, fun hd => ⟨vs, q4, by rw [hd, q3.length]; exact Nat.le_refl _⟩⟩
        obtain ⟨v', v1, v2⟩ := q3.get hd
        refine ⟨⟨vs, v', q4, v1⟩, fun x H' y => ?_⟩
        obtain ⟨rfl, y2⟩ := y
        refine ⟨F2, Ext.refl, s2, ?_⟩
        have := y2 vs q4
        rw [v1] at this; cases this
        exact v2.extM s1 e2
      | _ => rw [rd] at hd; cases hd
/-! ranges -/
def rng (lo : Int) (n : Nat) : List D := (List.range n).map fun (i : Nat) => D.int (lo + (i : Int))
theorem rng_get {lo : Int} {n i : Nat} {d : D} (h : (rng lo n)[i]? = some d) : i < n ∧ d = .int (lo + i) := by
  unfold rng at h
  rw [List.getElem?_map] at h
  cases q : (List.range n)[i]? with
  | none => rw [q] at h; cases h
  | some j =>
    rw [q] at h
    obtain ⟨h1, h2⟩ := List.getElem?_eq_some_iff.mp q
    simp at h1 h2
    subst h2
    exact ⟨h1, (Option.some.inj h).symm⟩
theorem rng_len {lo : Int} {n : Nat} : (rng lo n).length = n := by simp [rng]
theorem wk_rng {K : PySem.W.Frag} {F : Addr → Prop} {μ : List Addr} {H : Hp} {lo : Int} {n : Nat} : Wk K CA (Itr lo n) F μ H (rng lo n) := by
  intro i F2 μ2 H2 bx2 e2 s2
  refine ⟨fun d hd => ?_, fun hi => by rw [rng_len] at hi; exact Nat.le_of_eq hi.symm⟩
  obtain ⟨h1, rfl⟩ := rng_get hd
  refine ⟨h1, fun x H' y => ?_⟩
  obtain ⟨rfl, rfl⟩ := y
  exact ⟨F2, Ext.refl, s2, rfl⟩
def iRng1M (m : ME) : MI := fun ρ bx => (m ρ bx).bind fun r b => match r.d with
  | .int j => if -(2 ^ 62) ≤ j ∧ j < 2 ^ 62 then .ok (rng 0 j.toNat) b else .stk
  | _ => .stk
def iRng2M (m1 m2 : ME) : MI := fun ρ bx => (m1 ρ bx).bind fun r b => (m2 ρ b).bind fun r2 b2 => match r.d, r2.d with
  | .int i, .int j => if -(2 ^ 62) ≤ i ∧ i < 2 ^ 62 ∧ -(2 ^ 62) ≤ j ∧ j < 2 ^ 62 then .ok (rng i (j - i).toNat) b2 else .stk
  | _, _ => .stk
theorem si_rng1 {a : Expr} {m : ME} {p : Pos} (hg : Gl X "range") (hm : X.mg "range" = none) (h : SE X CA W a m) (hs : starEach [a] X.env = [(false, eval a X.env)] := by rfl) : SI X CA W tg (.Call (.Name "range" p) [a] [] pos) (iRng1M m) := by
  obtain ⟨te, t1, t2⟩ := h.dat
  refine ⟨_, pi_range1 hg hm (pa_cons t1 pa_nil hs) hs, fun ρ bx F μ σ H R s n o => t2 ρ bx F μ σ H _ s n ?_⟩
  unfold iRng1M at o
  cases q : m ρ bx with
  | stk => rw [q] at o; exact o
  | exn c ns ds b => rw [q] at o; exact o
  | ok r b =>
    rw [q] at o
    intro v F1 H1 e1 s1 rr
    simp only [Out.bind_ok] at o
    cases rd : r.d with
    | int j =>
      rw [rd] at rr o
      by_cases hj : -(2 ^ 62) ≤ j ∧ j < 2 ^ 62
      · simp only [if_pos hj] at o
        exact ⟨j, by rw [show v = .int j from rr], hj.1, hj.2, o _ F1 H1 e1 s1 wk_rng⟩
      · simp only [if_neg hj] at o
    | _ => rw [rd] at o; exact o.elim
theorem si_rng2 {a a2 : Expr} {m m2 : ME} {p : Pos} (hg : Gl X "range") (hm : X.mg "range" = none) (h : SE X CA W a m) (h2 : SE X CA W a2 m2) (hs : starEach [a, a2] X.env = [(false, eval a X.env), (false, eval a2 X.env)] := by rfl) (hs2 : starEach [a2] X.env = [(false, eval a2 X.env)] := by rfl) :
    SI X CA W tg (.Call (.Name "range" p) [a, a2] [] pos) (iRng2M m m2) := by
  obtain ⟨te, t1, t2⟩ := h.dat
  obtain ⟨ue, u1, u2⟩ := h2.dat
  refine ⟨_, pi_range2 hg hm (pa_cons t1 (pa_cons u1 pa_nil hs2) (by rw [hs, hs2])) hs hs2, fun ρ bx F μ σ H R s n o => t2 ρ bx F μ σ H _ s n ?_⟩
  unfold iRng2M at o
  cases q : m ρ bx with
  | stk => rw [q] at o; exact o
  | exn c ns ds b => rw [q] at o; exact o
  | ok r b =>
    rw [q] at o
    intro v F1 H1 e1 s1 rr
    refine u2 ρ b F1 μ σ H1 _ s1 (n.ext s e1) ?_
    simp only [Out.bind_ok] at o
    cases q2 : m2 ρ b with
    | stk => rw [q2] at o; exact o
    | exn c ns ds b => rw [q2] at o; exact fun cls dx F' H' e' s' x => o cls dx F' H' (e1.trans e') s' x
    | ok r2 b2 =>
      rw [q2] at o
      intro v2 F2 H2 e2 s2 rr2
      simp only [Out.bind_ok] at o
      cases rd : r.d with
      | int i => cases rd2 : r2.d with
        | int j =>
          rw [rd] at rr o
          rw [rd2] at rr2 o
          by_cases hj : -(2 ^ 62) ≤ i ∧ i < 2 ^ 62 ∧ -(2 ^ 62) ≤ j ∧ j < 2 ^ 62
          · simp only [if_pos hj] at o
            exact ⟨i, j, by rw [show v = .int i from rr, show v2 = .int j from rr2], hj, o _ F2 H2 (e1.trans e2) s2 wk_rng⟩
          · simp only [if_neg hj] at o
        | _ => rw [rd, rd2] at o; exact o.elim
      | _ => rw [rd] at o; exact o.elim
end
end DL

set_option Elab.async false
set_option linter.all false
set_option maxRecDepth 100000
set_option maxHeartbeats 4000000
/-! DL5: comprehensions; operations on values. -/
namespace DL
open PySem PySem.Spec L2
/-! ### readings that a computation itself gives -/
section
variable (K : PySem.W.Frag) (CA : Ly) (W : WX)
def tM (m : ME) : TE := fun σ H Q => ∃ ρ bx F μ, Sx K CA F μ H bx ∧ En K CA F μ H ρ σ ∧ OkG K CA W F μ σ H (fun F' H' => RRv K CA F' μ H H') (m ρ bx) Q
def tMD (m : ME) : TE := fun σ H Q => ∃ ρ bx F μ, Sx K CA F μ H bx ∧ En K CA F μ H ρ σ ∧ OkG K CA W F μ σ H (fun F' H' => Rp K CA F' μ H') ((m ρ bx).map R.d) Q
def tMB (m : MB) : TT := fun σ H Q => ∃ ρ bx F μ, Sx K CA F μ H bx ∧ En K CA F μ H ρ σ ∧ OkG K CA W F μ σ H (fun _ _ (b c : Bool) => c = b) (m ρ bx) Q
def tMG (is : List Nat) (g : D → Sl → Option Sl) : TG := fun v σ H Q => ∃ d ρ bx F μ, Sx K CA F μ H bx ∧ En K CA F μ H ρ σ ∧ Rp K CA F μ H d v ∧ ∃ ρ', g d ρ = some ρ' ∧ ∀ σ', En K CA F μ H ρ' σ' → Agr is σ σ' → Q σ' H
end
section
variable {X : Cx} {CA : Ly} {W : WX} {e : Expr}
theorem SE.tD {m : ME} (h : SE X CA W e m) : PE X e (tMD X.K CA W m) := by
  obtain ⟨t, h1, h2⟩ := h.dat
  exact ⟨fun pins s σ H Q I ⟨ρ, bx, F, μ, sx, n, o⟩ => h1.run pins s σ H Q I (h2 ρ bx F μ σ H Q sx n o)⟩
theorem ST.t {m : MB} (h : ST X CA W e m) : PT X e (tMB X.K CA W m) := by
  obtain ⟨t, h1, h2⟩ := h.ex
  exact ⟨fun pins s σ H Q I ⟨ρ, bx, F, μ, sx, n, o⟩ => h1.run pins s σ H Q I (h2 ρ bx F μ σ H Q sx n o)⟩
theorem SG.t {is : List Nat} {g : D → Sl → Option Sl} (h : SG X CA e is g) : PG X e (tMG X.K CA is g) := by
  obtain ⟨t, h1, h2⟩ := h.ex
  exact ⟨fun pins s σ H v u Q I r ⟨d, ρ, bx, F, μ, sx, n, rd, o⟩ => h1.run pins s σ H v u Q I r (h2 d v ρ bx F μ σ H Q sx n rd o)⟩
end
/-! ### list comprehensions -/
def noX {α : Type} : Out α → Out α
  | .ok r b => .ok r b
  | _ => .stk
abbrev W0 : WX := fun _ _ _ _ => False
def compL (g : D → Sl → Option Sl) (t : MB) (m : ME) : List D → Sl → List D → List D → Out (List D)
  | [], _, bx, acc => .ok acc bx
  | d :: ds, ρ, bx, acc => match g d ρ with
    | none => .stk
    | some ρ1 => (noX (t ρ1 bx)).bind fun k b1 => if k then (noX (m ρ1 b1)).bind fun r b2 => if acc.length < sizeLine then compL g t m ds ρ b2 (acc ++ [r.d]) else .stk else compL g t m ds ρ b1 acc
def wipeD (ρ : Sl) : List Nat → Sl
  | [] => ρ
  | v :: vs => (wipeD ρ vs).set v none
def mComp (mi : MI) (vs : List Nat) (g : D → Sl → Option Sl) (t : MB) (m : ME) : ME := fun ρ bx => (mi ρ bx).bind fun ds b => (compL g t m ds (wipeD ρ vs) b []).bind fun acc b' => .ok (.new (.lst acc)) b'
def tTrue : MB := fun _ bx => .ok true bx
section
variable {K : PySem.W.Frag} {CA : Ly} {F : Addr → Prop} {μ : List Addr} {H : Hp} {ρ : Sl} {σ : L2.St}
theorem En.wipe (n : En K CA F μ H ρ σ) : ∀ vs : List Nat, En K CA F μ H (wipeD ρ vs) (L2.wipe σ vs)
  | [] => n
  | v :: vs => by
    have n1 := En.wipe n vs
    refine ⟨by unfold wipeD L2.wipe; rw [List.length_set, List.length_set]; exact n1.len, fun i d q => ?_⟩
    unfold wipeD at q
    unfold L2.wipe
    by_cases e : v = i
    · subst e
      by_cases hv : v < (wipeD ρ vs).length
      · rw [List.getElem?_set_self hv] at q; cases q
      · rw [List.getElem?_eq_none (by simpa using hv)] at q; cases q
    · rw [List.getElem?_set_ne e] at q
      obtain ⟨w, q1, q2⟩ := n1.at_ i d q
      exact ⟨w, by rw [List.getElem?_set_ne e]; exact q1, q2⟩
theorem wipe_agr {σ σ' : L2.St} {is : List Nat} : ∀ {vs : List Nat}, (∀ i ∈ is, i ∈ vs) → Agr is σ σ' → wipe σ' vs = wipe σ vs := by
  intro vs hs ⟨hl, ha⟩
  have at_ : ∀ (τ : L2.St) (vs : List Nat) (j : Nat), (wipe τ vs)[j]? = if j ∈ vs then (if j < τ.length then some none else none) else τ[j]? := by
    intro τ vs
    induction vs with
    | nil => intro j; simp [wipe]
    | cons v vs ih =>
      intro j
      unfold wipe
      by_cases e : v = j
      · subst e
        by_cases hv : v < τ.length
        · rw [List.getElem?_set_self (by rw [wipe_length]; exact hv)]; simp [hv]
        · rw [List.getElem?_eq_none (by rw [List.length_set, wipe_length]; exact Nat.le_of_not_lt hv)]; simp [hv]
      · rw [List.getElem?_set_ne e, ih j]
        have : ¬ j = v := fun z => e z.symm
        simp [this]
  apply List.ext_getElem?
  intro j
  rw [at_, at_]
  by_cases hj : j ∈ vs
  · simp [hj, hl]
  · simp [hj]; exact ha j fun z => hj (hs j z)
theorem wipe_wipe {σ : L2.St} {vs : List Nat} : wipe (wipe σ vs) vs = wipe σ vs := by
  apply wipe_agr (is := vs) (fun _ h => h)
  refine ⟨wipe_length σ vs, fun j hj => ?_⟩
  induction vs with
  | nil => rfl
  | cons v vs ih =>
    unfold wipe
    rw [List.getElem?_set_ne fun e => hj (by simp [e])]
    exact ih fun z => hj (List.mem_cons_of_mem _ z)
end
theorem Sx.free {K : PySem.W.Frag} {CA : Ly} {F : Addr → Prop} {μ : List Addr} {H : Hp} {bx : List D} {p : Addr} {o : HO} {ws : List V} (s : Sx K CA F μ H bx) (hF : ¬ F p) (hm : p ∉ μ) (hp : H p = some (.lst ws)) : Sx K CA F μ (upd H p o) bx := by
  refine ⟨s.len, fun n d a h1 h2 => At.mono (h := s.at_ n d a h1 h2) (hF := fun _ z => z) (hm := fun _ _ z => z) (hs := fun b u fb e => ?_) (ha := fun u e => ?_), s.nd, s.dj, fun a fa => ?_, fun a u fa e => ?_, Tabs.keep s.tb fun b u e z => ?_⟩
  · rw [upd_ne (fun (z : b = p) => hF (z ▸ fb))]; exact e
  · rw [upd_ne (fun (z : a = p) => hm (z ▸ List.mem_of_getElem? h2))]; exact e
  · obtain ⟨u, q⟩ := s.tr a fa
    exact ⟨u, by rw [upd_ne (fun (z : a = p) => hF (z ▸ fa))]; exact q⟩
  · rw [upd_ne (fun (z : a = p) => hF (z ▸ fa))] at e
    exact s.ft a u fa e
  · rw [upd_ne (fun (q : b = p) => ?_)]
    · exact e
    · rw [q, hp] at e
      cases e
      rcases z with ⟨_, z⟩ | ⟨_, _, z⟩
      · cases z
      · unfold LamX.CodeO at z; cases z
section
variable {X : Cx} {CA : Ly} {W : WX} {elt tg iter : Expr} {ifs : List Expr} {scope : Scope} {own : List (Str × Nat)} {pos : Pos}
theorem comp_ok {K : PySem.W.Frag} {mi : MI} {g : D → Sl → Option Sl} {is : List Nat} {t : MB} {m : ME} {wi : TI} (hsub : ∀ i ∈ is, i ∈ own.map (·.2))
    (i2 : ∀ ρ bx F μ σ H R, Sx K CA F μ H bx → En K CA F μ H ρ σ → (match mi ρ bx with
      | .ok ds b => ∀ J F1 H1, Ext F μ H F1 H1 → Sx K CA F1 μ H1 b → Wk K CA J F1 μ H1 ds → R J H1
      | .exn c ns ds b => ∀ cls dx F' H', Ext F μ H F' H' → Sx K CA F' μ H' b → ExAt K CA F' μ H' c ns ds cls dx → W cls dx σ H'
      | .stk => False) → wi σ H R) :
    ∀ ρ bx F μ σ H Q, Sx K CA F μ H bx → En K CA F μ H ρ σ → OkG K CA W F μ σ H (fun F' H' => RRv K CA F' μ H H') (mComp mi (own.map (·.2)) g t m ρ bx) Q →
      tLc wi (tMG K CA is g) (tMB K CA W0 t) (tMD K CA W0 m) (own.map (·.2)) σ H Q := by
  intro ρ bx F μ σ H Q s n o
  refine i2 ρ bx F μ σ H _ s n ?_
  unfold mComp at o
  cases q : mi ρ bx with
  | stk => rw [q] at o; exact o
  | exn c ns ds b => rw [q] at o; exact o
  | ok ds b =>
    rw [q] at o
    intro J F1 H1 e1 s1 wk D hD
    let vs := own.map (·.2)
    have nD := s1.notIn hD
    -- the turn's invariant
    let P : Nat → Hp → Prop := fun i H2 => i ≤ ds.length ∧ ∃ bx2 acc ws F2, Ext F1 μ H1 F2 H2 ∧ Sx K CA F2 μ H2 bx2 ∧ ¬ F2 D ∧ H2 D = some (.lst ws) ∧ Rps K CA F2 μ H2 acc ws ∧
      OkG K CA W F1 μ σ H1 (fun F' H' => RRv K CA F' μ H1 H') ((compL g t m (ds.drop i) (wipeD ρ vs) bx2 acc).bind fun acc b' => .ok (.new (.lst acc)) b') Q
    refine ⟨fun i k H2 => k = ds.length - i ∧ P i H2, ⟨ds.length - 0, rfl, Nat.zero_le _, b, [], [], F1, Ext.tmp hD, s1.tmp hD, s1.notF hD, upd_same, trivial, OkG.shiftR e1 o⟩, ?_⟩
    rintro i k H2 ⟨rfl, hi, bx2, acc, ws, F2, e2, s2, f2, hD2, ra, o2⟩
    have e12 : ExtM F1 μ H1 F2 μ H2 := e2.m
    obtain ⟨w1, w2⟩ := wk i F2 μ H2 bx2 e12 s2
    by_cases hl : i = ds.length
    · refine .inl ⟨w2 hl, ?_⟩
      rw [hl, List.drop_length] at o2
      exact o2 (.ref D) F2 H2 e2 s2 ⟨D, rfl, .of hD, nD, f2, ws, hD2, ra⟩
    · have hlt : i < ds.length := Nat.lt_of_le_of_ne hi hl
      obtain ⟨go, yl⟩ := w1 _ (List.getElem?_eq_getElem hlt)
      refine .inr ⟨go, P (i + 1), fun H' p => ⟨ds.length - (i + 1), by omega, rfl, p⟩, fun x H3 y => ?_⟩
      obtain ⟨F3, e3, s3, r3⟩ := yl x H3 y
      rw [List.drop_eq_getElem_cons hlt] at o2
      unfold compL at o2
      cases qg : g ds[i] (wipeD ρ vs) with
      | none => simp only [qg] at o2; exact o2.elim
      | some ρ1 =>
        simp only [qg] at o2
        have e13 : Ext F μ H F3 H3 := e1.trans (e2.trans e3)
        refine ⟨ds[i], wipeD ρ vs, bx2, F3, μ, s3, (n.ext s e13).wipe vs, r3, ρ1, qg, fun σ2 n2 a2 => ⟨?_, ?_⟩⟩
        · rw [wipe_agr hsub a2, wipe_wipe]
        have keepD : ∀ {F4 : Addr → Prop} {H4 : Hp}, Ext F3 μ H3 F4 H4 → H4 D = some (.lst ws) ∧ ¬ F4 D := fun {F4 H4} e4 => by
          have a3 : H3 D = some (.lst ws) := e3.keep _ _ hD2 nD nt_lst
          refine ⟨e4.keep _ _ a3 nD nt_lst, fun z => ?_⟩
          rcases e4.fr D z with z | z
          · rcases e3.fr D z with z | z
            · exact f2 z
            · exact z.1 _ hD2 nt_lst
          · exact z.1 _ a3 nt_lst
        refine ⟨ρ1, bx2, F3, μ, s3, n2, ?_⟩
        cases qt : t ρ1 bx2 with
        | stk => rw [qt] at o2; exact o2.elim
        | exn c ns es b => rw [qt] at o2; exact o2.elim
        | ok kk b1 =>
          rw [qt] at o2
          intro v F4 H4 e4 s4 ev
          subst ev
          simp only [noX, Out.bind_ok] at o2
          cases v with
          | false =>
            refine iteF ⟨hlt, b1, acc, ws, F4, e2.trans (e3.trans e4), s4, (keepD e4).2, (keepD e4).1, ra.ext s2 (e3.trans e4), ?_⟩
            simpa using o2
          | true =>
            simp only [if_true] at o2
            refine iteT ⟨ρ1, b1, F4, μ, s4, n2.ext s3 e4, ?_⟩
            cases qm : m ρ1 b1 with
            | stk => rw [qm] at o2; exact o2.elim
            | exn c ns es b => rw [qm] at o2; exact o2.elim
            | ok r b2 =>
              rw [qm] at o2
              intro yv F5 H5 e5 s5 ry
              simp only [noX, Out.bind_ok] at o2
              have e35 := e4.trans e5
              by_cases hz : acc.length < sizeLine
              · rw [if_pos hz] at o2
                have ra5 := ra.ext s2 (e3.trans e35)
                have kd := keepD e35
                have st : Stay F5 H5 (upd H5 D (.lst (ws ++ [yv]))) := fun a u fa h => by
                  rw [upd_ne (fun (z : a = D) => kd.2 (z ▸ fa))]; exact h
                refine ⟨ws, kd.1, by rw [← ra5.length]; exact hz, hlt, b2, acc ++ [r.d], ws ++ [yv], F5, ?_, s5.free kd.2 nD kd.1, kd.2, upd_same, (Rps.append ra5 (show Rps K CA F5 μ H5 [r.d] [yv] from ⟨ry, trivial⟩)).mono (fun _ z => z) (fun _ _ z => z) st, o2⟩
                have e25 := e2.trans (e3.trans e35)
                refine ⟨e25.up, e25.fr, fun a u h hm z => ?_⟩
                rw [upd_ne (ne_of_none h hD)]; exact e25.keep a u h hm z
              · rw [if_neg hz] at o2; exact o2.elim
theorem se_comp {mi : MI} {g : D → Sl → Option Sl} {is : List Nat} {t : MB} {m : ME} (hc : X.calm = true) (hN : X.N.Nodup) (hi : SI X CA W tg iter mi) (ok : BlkOk X.N X.env.scope scope own) (hsub : ∀ i ∈ is, i ∈ own.map (·.2))
    (hg : ∀ (s : Shared) (H : Hp) (C : Addr) (cl : List (Str × Addr)) (fp : List Addr), SG (X.blk s H scope (compEnvC scope cl C X.env) fp) CA tg is g)
    (ht : ∀ (s : Shared) (H : Hp) (C : Addr) (cl : List (Str × Addr)) (fp : List Addr), PTs (X.blk s H scope (compEnvC scope cl C X.env) fp) ifs (tMB X.K CA W0 t))
    (he : ∀ (s : Shared) (H : Hp) (C : Addr) (cl : List (Str × Addr)) (fp : List Addr), SE (X.blk s H scope (compEnvC scope cl C X.env) fp) CA W0 elt m) (hs : ∀ x, foldedSetIterable iter X.env x = pure x := by intro _; rfl) :
    SE X CA W (.ListComp elt [⟨tg, iter, ifs, 0⟩] scope pos) (mComp mi (own.map (·.2)) g t m) := by
  obtain ⟨wi, i1, i2⟩ := hi.ex
  exact ⟨_, pe_lc hc hN i1 ok (fun s H C cl fp => (hg s H C cl fp).t) ht (fun s H C cl fp => (he s H C cl fp).tD) hs, comp_ok hsub i2⟩
/-- name = [..] on one line: the name frozen, or boxed -/
theorem ss_setComp {i : Nat} {y : Str} {py spos : Pos} {mi : MI} {g : D → Sl → Option Sl} {is : List Nat} {t : MB} {m : ME} (hc : X.calm = true) (hN : X.N.Nodup) (hy : X.N[i]? = some y) (hyl : X.env.scope.names.lookup y = some .local)
    (hsw : swapsWith (.ListComp elt [⟨tg, iter, ifs, 0⟩] scope pos) (some (.Name y py)) spos.line X.env = pure true) (hi : SI X CA W tg iter mi) (ok : BlkOk X.N X.env.scope scope own) (hsub : ∀ i ∈ is, i ∈ own.map (·.2))
    (hg : ∀ (s : Shared) (H : Hp) (C : Addr) (cl : List (Str × Addr)) (fp : List Addr), SG (X.blk s H scope (compEnvC scope cl C X.env) fp) CA tg is g)
    (ht : ∀ (s : Shared) (H : Hp) (C : Addr) (cl : List (Str × Addr)) (fp : List Addr), PTs (X.blk s H scope (compEnvC scope cl C X.env) fp) ifs (tMB X.K CA W0 t))
    (he : ∀ (s : Shared) (H : Hp) (C : Addr) (cl : List (Str × Addr)) (fp : List Addr), SE (X.blk s H scope (compEnvC scope cl C X.env) fp) CA W0 elt m) (hs : ∀ x, foldedSetIterable iter X.env x = pure x := by intro _; rfl) :
    SS X CA W (.Assign [.Name y py] (.ListComp elt [⟨tg, iter, ifs, 0⟩] scope pos) spos) (mAsg (mComp mi (own.map (·.2)) g t m) (gN i)) := by
  obtain ⟨wi, i1, i2⟩ := hi.ex
  have key : SE X CA W (.ListComp elt [⟨tg, iter, ifs, 0⟩] scope pos) (mComp mi (own.map (·.2)) g t m) := se_comp hc hN hi ok hsub hg ht he hs
  have h1 := ps_setLc (i := i) (py := py) (g := tMG X.K CA is g) (tt := tMB X.K CA W0 t) (te := tMD X.K CA W0 m) hc hN hy hyl hsw i1 ok (fun s H C cl fp => (hg s H C cl fp).t) ht (fun s H C cl fp => (he s H C cl fp).tD) hs
  have h2 := comp_ok (K := X.K) (W := W) (CA := CA) (t := t) (m := m) (g := g) hsub i2
  -- the reading with what is new frozen
  have h3 : ∀ ρ bx F μ σ H Q, Sx X.K CA F μ H bx → En X.K CA F μ H ρ σ → OkG X.K CA W F μ σ H (fun F' H' => Rp X.K CA F' μ H') ((mComp mi (own.map (·.2)) g t m ρ bx).map R.d) Q → tLc wi (tMG X.K CA is g) (tMB X.K CA W0 t) (tMD X.K CA W0 m) (own.map (·.2)) σ H Q := by
    have se : SE X CA W (.ListComp elt [⟨tg, iter, ifs, 0⟩] scope pos) (mComp mi (own.map (·.2)) g t m) := key
    intro ρ bx F μ σ H Q s n o
    exact h2 ρ bx F μ σ H Q s n (OkG.unfrz s o)
  refine ⟨_, h1, fun ρ bx F μ σ H D s n o => ?_⟩
  refine h3 ρ bx F μ σ H _ s n ?_
  have o' : OkS X.K CA W F μ H D (liftE ((mComp mi (own.map (·.2)) g t m ρ bx).map R.d) ρ fun d b => .nx (ρ.set i (some d)) b) := by rw [liftE_map]; exact o
  exact OkS.seqE s n o' fun d b v F1 H1 e1 s1 rr o1 => o1 _ F1 μ H1 e1.m s1 ((n.ext s e1).set rr)
end
end DL

set_option Elab.async false
set_option linter.all false
set_option maxRecDepth 100000
set_option maxHeartbeats 4000000
/-! DL6: operations on values. -/
namespace DL
open PySem PySem.Spec L2
/-- what can be read as a list -/
def D.sL (bx : List D) : D → Option (List D)
  | .lst ds => some ds
  | .rol ds => some ds
  | .box n => match bx[n]? with
    | some (.lst ds) => some ds
    | _ => none
  | _ => none
/-- .. that stands in the heap by itself -/
def D.hL (bx : List D) : D → Option (List D)
  | .lst ds => some ds
  | .box n => match bx[n]? with
    | some (.lst ds) => some ds
    | _ => none
  | _ => none
def D.sT : D → Option (List D)
  | .tup ds => some ds
  | _ => none
def D.sq (bx : List D) (d : D) : Option (List D) := match d.sL bx with
  | some ds => some ds
  | none => d.sT
section
variable {K : PySem.W.Frag} {CA : Ly} {F : Addr → Prop} {μ : List Addr} {H : Hp} {bx : List D} {d : D} {v : V} {ds : List D}
theorem hL_at (s : Sx K CA F μ H bx) (r : Rp K CA F μ H d v) (e : d.hL bx = some ds) : ∃ a vs, v = .ref a ∧ H a = some (.lst vs) ∧ Rps K CA F μ H ds vs := by
  cases d with
  | lst xs =>
    cases e
    obtain ⟨a, vs, q1, q2, q3⟩ := r
    exact ⟨a, vs, q1, q2.2, q3⟩
  | box n =>
    obtain ⟨a, q1, q2⟩ := r
    unfold D.hL at e
    cases hb : bx[n]? with
    | none => simp only [hb] at e; cases e
    | some d' =>
      cases d' with
      | lst xs =>
        simp only [hb] at e
        cases e
        obtain ⟨vs, w1, w2⟩ := s.at_ n _ a hb q2
        exact ⟨a, vs, q1, w1, w2⟩
      | _ => simp only [hb] at e; cases e
  | _ => cases e
theorem sL_at (s : Sx K CA F μ H bx) (r : Rp K CA F μ H d v) (e : d.sL bx = some ds) : ∃ a vs, v = .ref a ∧ SqL K H a vs ∧ Rps K CA F μ H ds vs := by
  cases d with
  | lst xs =>
    cases e
    obtain ⟨a, vs, q1, q2, q3⟩ := r
    exact ⟨a, vs, q1, q2.sq, q3⟩
  | rol xs =>
    cases e
    obtain ⟨a, vs, q1, q2, q3⟩ := r
    exact ⟨a, vs, q1, q2.sq, q3⟩
  | box n =>
    obtain ⟨a, vs, h1, h2, h3⟩ := hL_at s r (d := .box n) (ds := ds) e
    exact ⟨a, vs, h1, .inl (.inl h2), h3⟩
  | _ => cases e
theorem sT_at (r : Rp K CA F μ H d v) (e : d.sT = some ds) : ∃ a vs, v = .ref a ∧ SqT K H a vs ∧ Rps K CA F μ H ds vs := by
  cases d with
  | tup xs =>
    cases e
    obtain ⟨a, vs, q1, q2, q3⟩ := r
    exact ⟨a, vs, q1, q2.sq, q3⟩
  | _ => cases e
theorem sq_at (s : Sx K CA F μ H bx) (r : Rp K CA F μ H d v) (e : d.sq bx = some ds) : ∃ a vs, v = .ref a ∧ (SqL K H a vs ∨ SqT K H a vs) ∧ Rps K CA F μ H ds vs := by
  unfold D.sq at e
  cases q : d.sL bx with
  | some xs =>
    rw [q] at e; cases e
    obtain ⟨a, vs, h1, h2, h3⟩ := sL_at s r q
    exact ⟨a, vs, h1, .inl h2, h3⟩
  | none =>
    rw [q] at e
    obtain ⟨a, vs, h1, h2, h3⟩ := sT_at r e
    exact ⟨a, vs, h1, .inr h2, h3⟩
theorem Rps.atI : ∀ {ds : List D} {vs : List V} {i : Int} {d : D}, Rps K CA F μ H ds vs → L2.atI ds i = some d → ∃ v, L2.atI vs i = some v ∧ Rp K CA F μ H d v := by
  intro ds vs i d r e
  unfold L2.atI at e ⊢
  rw [← r.length]
  cases q : ixN ds.length i with
  | none => rw [q] at e; cases e
  | some j =>
    rw [q] at e
    exact r.get e
end
section
variable {X : Cx} {CA : Ly} {W : WX} {e a b : Expr} {es : List Expr} {pos : Pos}
abbrev OK (r : D) (bx : List D) : Out R := .ok (.val r) bx
/-- a plain result -/
theorem okV {F : Addr → Prop} {μ : List Addr} {σ : L2.St} {H : Hp} {bx : List D} {d : D} {v : V} {Q : VK} (o : OkG X.K CA W F μ σ H (fun F' H' => RRv X.K CA F' μ H H') (OK d bx) Q) (s : Sx X.K CA F μ H bx) (r : Rp X.K CA F μ H d v) : Q v H := o v F H Ext.refl s r
/-- a new list -/
theorem okL {F : Addr → Prop} {μ : List Addr} {σ : L2.St} {H : Hp} {bx ds : List D} {vs : List V} {Q : VK} (o : OkG X.K CA W F μ σ H (fun F' H' => RRv X.K CA F' μ H H') (.ok (.new (.lst ds)) bx) Q) (s : Sx X.K CA F μ H bx) (r : Rps X.K CA F μ H ds vs) :
    ∀ p, H p = none → Q (.ref p) (upd H p (.lst vs)) := fun p hp => by
  have e2 := Ext.tmp (F := F) (μ := μ) (o := .lst vs) hp
  exact o (.ref p) F _ e2 (s.tmp hp) ⟨p, rfl, .of hp, s.notIn hp, s.notF hp, vs, upd_same, r.ext s e2⟩
/-- a new tuple -/
theorem okT {F : Addr → Prop} {μ : List Addr} {σ : L2.St} {H : Hp} {bx ds : List D} {vs : List V} {Q : VK} (o : OkG X.K CA W F μ σ H (fun F' H' => RRv X.K CA F' μ H H') (OK (.tup ds) bx) Q) (s : Sx X.K CA F μ H bx) (r : Rps X.K CA F μ H ds vs) :
    ∀ p, H p = none → Q (.ref p) (upd H p (.tup vs)) := fun p hp => by
  have e2 := Ext.new (o := .tup vs) s hp
  exact o (.ref p) _ _ e2 (s.new hp) ⟨p, vs, rfl, .inl ⟨.inr rfl, upd_same⟩, r.ext s e2⟩
/-- a box's list becomes another one -/
theorem okB {F : Addr → Prop} {μ : List Addr} {H : Hp} {bx ds : List D} {vs : List V} {n : Nat} {p : Addr} (s : Sx X.K CA F μ H bx) (hp : μ[n]? = some p) (r : Rps X.K CA F μ H ds vs) :
    Ext F μ H F (upd H p (.lst vs)) ∧ Sx X.K CA F μ (upd H p (.lst vs)) (bx.set n (.lst ds)) := by
  have pm : p ∈ μ := List.mem_of_getElem? hp
  have hF := s.dj p pm
  have st : Stay F H (upd H p (.lst vs)) := fun a u fa e => by rw [upd_ne (fun (z : a = p) => hF (z ▸ fa))]; exact e
  refine ⟨.all (fun _ z => z) (fun _ z => .inl z) fun a u e hm => by rw [upd_ne (fun (z : a = p) => hm (z ▸ pm))]; exact e, ⟨by rw [List.length_set]; exact s.len, fun m d a h1 h2 => ?_, s.nd, s.dj, fun a fa => ?_, fun a u fa e => ?_, Tabs.keep s.tb fun b u e z => ?_⟩⟩
  · by_cases e : n = m
    · subst e
      rw [hp] at h2; cases h2
      have hn : n < bx.length := by
        have := (List.getElem?_eq_some_iff.mp h1).1
        rwa [List.length_set] at this
      rw [List.getElem?_set_self hn] at h1
      cases h1
      exact ⟨vs, upd_same, r.mono (fun _ z => z) (fun _ _ z => z) st⟩
    · rw [List.getElem?_set_ne e] at h1
      have ne : a ≠ p := fun z => by
        subst z
        obtain ⟨i1, e1⟩ := List.getElem?_eq_some_iff.mp hp
        obtain ⟨i2, e2⟩ := List.getElem?_eq_some_iff.mp h2
        exact e ((List.getElem_inj s.nd).mp (e1.trans e2.symm))
      exact At.mono (h := s.at_ m d a h1 h2) (hF := fun _ z => z) (hm := fun _ _ z => z) (hs := st) (ha := fun u q => by rw [upd_ne ne]; exact q)
  · obtain ⟨u, q⟩ := s.tr a fa
    exact ⟨u, by rw [upd_ne (fun (z : a = p) => hF (z ▸ fa))]; exact q⟩
  · rw [upd_ne (fun (z : a = p) => hF (z ▸ fa))] at e
    exact s.ft a u fa e
  · rw [upd_ne (fun (q : b = p) => ?_)]
    · exact e
    · obtain ⟨n', hn', e2⟩ := List.mem_iff_getElem.mp pm
      have at_ := s.at_ n' _ p (List.getElem?_eq_getElem (s.len ▸ hn')) (by rw [List.getElem?_eq_getElem hn', e2])
      exact at_.plain u (q ▸ e) z

/-! ### + - * // % ** -/
theorem okIf {K : PySem.W.Frag} {F : Addr → Prop} {μ : List Addr} {σ : L2.St} {H : Hp} {α β : Type} {rel : (Addr → Prop) → Hp → α → β → Prop} {Q : β → Hp → Prop} {c : Prop} [Decidable c] {x : Out α} (o : OkG K CA W F μ σ H rel (if c then x else .stk) Q) : c ∧ OkG K CA W F μ σ H rel x Q := by
  by_cases h : c
  · rw [if_pos h] at o; exact ⟨h, o⟩
  · rw [if_neg h] at o; exact o.elim
/-- an operation on two ints, under a condition -/
def opII (C : Int → Int → Prop) [∀ i j, Decidable (C i j)] (g : Int → Int → D) : D → D → List D → Out R
  | .int i, .int j, bx => if C i j then OK (g i j) bx else .stk
  | _, _, _ => .stk
theorem dop_II {f : Value → Value → Sem Value} {C : Int → Int → Prop} [∀ i j, Decidable (C i j)] {gV : Int → Int → V} {g : Int → Int → D} (h : OpR X f (rI C gV)) (hg : ∀ i j F μ H, Rp X.K CA F μ H (g i j) (gV i j)) : DOp X CA W f (opII C g) := by
  refine ⟨_, h, fun x y vx vy bx F μ σ H Q s rx ry o => ?_⟩
  cases x <;> cases y <;> first | exact o.elim | skip
  rename_i i j
  obtain ⟨c, o⟩ := okIf (show OkG X.K CA W F μ σ H (fun F' H' => RRv X.K CA F' μ H H') (if C i j then OK (g i j) bx else .stk) Q from o)
  exact ⟨i, j, rx, ry, c, okV o s (hg _ _ _ _ _)⟩
def opII0 (g : Int → Int → D) : D → D → List D → Out R
  | .int i, .int j, bx => OK (g i j) bx
  | _, _, _ => .stk
theorem dop_II0 {f : Value → Value → Sem Value} {gV : Int → Int → V} {g : Int → Int → D} (h : OpR X f (rI0 gV)) (hg : ∀ i j F μ H, Rp X.K CA F μ H (g i j) (gV i j)) : DOp X CA W f (opII0 g) := by
  refine ⟨_, h, fun x y vx vy bx F μ σ H Q s rx ry o => ?_⟩
  cases x <;> cases y <;> first | exact o.elim | skip
  rename_i i j
  exact ⟨i, j, rx, ry, okV o s (hg _ _ _ _ _)⟩
abbrev addI := opII0 fun i j => .int (i + j)
abbrev subI := opII0 fun i j => .int (i - j)
abbrev ltI := opII0 fun i j => .bl (decide (i < j))
abbrev leI := opII0 fun i j => .bl (decide (i ≤ j))
abbrev gtI := opII0 fun i j => .bl (decide (j < i))
abbrev geI := opII0 fun i j => .bl (decide (j ≤ i))
instance {i j : Int} : Decidable (CMul i j) := by unfold CMul; exact inferInstance
instance {i j : Int} : Decidable (CPow i j) := by unfold CPow; exact inferInstance
instance {i j : Int} : Decidable (CMulW i j) := by unfold CMulW; exact inferInstance
instance {i j : Int} : Decidable (CDivW i j) := by unfold CDivW; exact inferInstance
abbrev mulI := opII CMul fun i j => .int (i * j)
abbrev mulW := opII CMulW fun i j => .int (i * j)
abbrev divW := opII CDivW fun i j => .int (i / j)
abbrev modI := opII (fun _ j => 0 < j) fun i j => .int (i % j)
abbrev powI := opII CPow fun i j => .int (i ^ j.toNat)
theorem dop_addI : DOp X CA W (binaryOp .Add) addI := dop_II0 op_add fun _ _ _ _ _ => rfl
theorem dop_subI : DOp X CA W (binaryOp .Sub) subI := dop_II0 op_sub fun _ _ _ _ _ => rfl
theorem dop_mulI : DOp X CA W (binaryOp .Mult) mulI := dop_II op_mul fun _ _ _ _ _ => rfl
theorem dop_mulW : DOp X CA W (binaryOp .Mult) mulW := dop_II op_mulW fun _ _ _ _ _ => rfl
theorem dop_divW : DOp X CA W (binaryOp .FloorDiv) divW := dop_II op_fdivW fun _ _ _ _ _ => rfl
theorem dop_modI : DOp X CA W (binaryOp .Mod) modI := dop_II op_mod fun _ _ _ _ _ => rfl
theorem dop_powI : DOp X CA W (binaryOp .Pow) powI := dop_II op_pow fun _ _ _ _ _ => rfl
theorem dop_ltI : DOp X CA W (compareOp .Lt) ltI := dop_II0 op_lt fun _ _ _ _ _ => rfl
theorem dop_leI : DOp X CA W (compareOp .LtE) leI := dop_II0 op_le fun _ _ _ _ _ => rfl
theorem dop_gtI : DOp X CA W (compareOp .Gt) gtI := dop_II0 op_gt fun _ _ _ _ _ => rfl
theorem dop_geI : DOp X CA W (compareOp .GtE) geI := dop_II0 op_ge fun _ _ _ _ _ => rfl
def addL : D → D → List D → Out R := fun x y bx => match x.hL bx, y.hL bx with
  | some xs, some ys => if xs.length + ys.length ≤ sizeLine then .ok (.new (.lst (xs ++ ys))) bx else .stk
  | _, _ => .stk
theorem dop_addL : DOp X CA W (binaryOp .Add) addL := by
  refine ⟨_, op_cat, fun x y vx vy bx F μ σ H Q s rx ry o => ?_⟩
  unfold addL at o
  cases hx : x.hL bx with
  | none => simp only [hx] at o; exact o.elim
  | some xs => cases hy : y.hL bx with
    | none => simp only [hx, hy] at o; exact o.elim
    | some ys =>
      simp only [hx, hy] at o
      obtain ⟨hl, o⟩ := okIf o
      obtain ⟨p, vs, q1, q2, q3⟩ := hL_at s rx hx
      obtain ⟨p', vs', q1', q2', q3'⟩ := hL_at s ry hy
      exact ⟨p, p', vs, vs', q1, q1', q2, q2', by rw [← q3.length, ← q3'.length]; exact hl, okL o s (q3.append q3')⟩
def mulL : D → D → List D → Out R := fun x y bx => match x.hL bx, y with
  | some xs, .int k => if -(2 ^ 63) ≤ k ∧ k < 2 ^ 63 ∧ xs.length * k.toNat ≤ sizeLine then .ok (.new (.lst (List.replicate k.toNat xs).flatten)) bx else .stk
  | _, _ => .stk
def addT : D → D → List D → Out R
  | .tup xs, .tup ys, bx => if xs.length + ys.length ≤ sizeLine then OK (.tup (xs ++ ys)) bx else .stk
  | _, _, _ => .stk
theorem dop_addT : DOp X CA W (binaryOp .Add) addT := by
  refine ⟨_, op_catA, fun x y vx vy bx F μ σ H Q s rx ry o => ?_⟩
  cases x <;> cases y <;> first | exact o.elim | skip
  rename_i xs ys
  obtain ⟨hl, o⟩ := okIf (show OkG X.K CA W F μ σ H (fun F' H' => RRv X.K CA F' μ H H') (if xs.length + ys.length ≤ sizeLine then OK (.tup (xs ++ ys)) bx else .stk) Q from o)
  have rx0 := rx
  have ry0 := ry
  obtain ⟨p, vs, q1, q2, q3⟩ := rx
  obtain ⟨p', vs', q1', q2', q3'⟩ := ry
  subst q1 q1'
  refine ⟨p, p', vs, vs', rfl, rfl, q2.sq, q2'.sq, by rw [← q3.length, ← q3'.length]; exact hl, fun e => ?_, fun _ e => ?_, fun _ _ => okT o s (q3.append q3')⟩
  · subst e
    have : xs = [] := List.length_eq_zero_iff.mp q3.length
    subst this
    exact okV o s ry0
  · subst e
    have : ys = [] := List.length_eq_zero_iff.mp q3'.length
    subst this
    rw [List.append_nil] at o
    exact okV o s rx0
def addS : D → D → List D → Out R
  | .str x, .str y, bx => if x.length + y.length ≤ sizeLine then OK (.str (x ++ y)) bx else .stk
  | _, _, _ => .stk
theorem dop_addS : DOp X CA W (binaryOp .Add) addS := by
  refine ⟨_, op_add_str, fun x y vx vy bx F μ σ H Q s rx ry o => ?_⟩
  cases x <;> cases y <;> first | exact o.elim | skip
  rename_i x y
  obtain ⟨hl, o⟩ := okIf (show OkG X.K CA W F μ σ H (fun F' H' => RRv X.K CA F' μ H H') (if x.length + y.length ≤ sizeLine then OK (.str (x ++ y)) bx else .stk) Q from o)
  exact ⟨x, y, rx, ry, hl, okV o s rfl⟩
def negI : D → List D → Out R
  | .int i, bx => OK (.int (-i)) bx
  | _, _ => .stk
theorem dun_neg : DUn X CA W (unaryOp .USub) negI := by
  refine ⟨_, un_neg, fun x vx bx F μ σ H Q s rx o => ?_⟩
  cases x <;> first | exact o.elim | skip
  exact ⟨_, rx, okV o s rfl⟩
/-! ### is None -/
def D.isNon : D → Bool
  | .non => true
  | _ => false
def isN : D → List D → Out R := fun x bx => OK (.bl x.isNon) bx
def notN : D → List D → Out R := fun x bx => OK (.bl (!x.isNon)) bx
theorem Rp.non_iff {K : PySem.W.Frag} {F : Addr → Prop} {μ : List Addr} {H : Hp} {d : D} {v : V} (r : Rp K CA F μ H d v) : decide (v = .non) = d.isNon := by
  cases d with
  | non => cases r; rfl
  | bl _ => cases r; rfl
  | int _ => cases r; rfl
  | str _ => cases r; rfl
  | adr _ => cases r; rfl
  | ty _ => cases r; rfl
  | box _ => obtain ⟨_, rfl, _⟩ := r; rfl
  | tup _ => obtain ⟨_, _, rfl, _⟩ := r; rfl
  | lst _ => obtain ⟨_, _, rfl, _⟩ := r; rfl
  | rol _ => obtain ⟨_, _, rfl, _⟩ := r; rfl
  | ins _ _ _ => obtain ⟨_, _, _, rfl, _⟩ := r; rfl
  | dk _ _ => obtain ⟨_, _, rfl, _⟩ := r; rfl
  | dt _ _ => obtain ⟨_, _, rfl, _⟩ := r; rfl
theorem isN_ok {j : Nat} {pos' : Pos} {ma : ME} (ha : SE X CA W a ma) : ∃ te, PE X (.Compare a [.Is] [.Constant .none j pos'] pos) te ∧ PT X (.Compare a [.Is] [.Constant .none j pos'] pos) (tB te) ∧
    ∀ ρ bx F μ σ H Q, Sx X.K CA F μ H bx → En X.K CA F μ H ρ σ → OkG X.K CA W F μ σ H (fun F' H' => RRv X.K CA F' μ H H') (mUn isN ma ρ bx) Q → te σ H Q := by
  obtain ⟨ta, a1, a2⟩ := ha.dat
  refine ⟨_, pe_cmp (pc_isN a1) (by rfl), pt_cmp (pc_isN a1) (by rfl), fun ρ bx F μ σ H Q s n o => ?_⟩
  exact un_ok (g := isN) (r := fun x H Q => Q (.bl (decide (x = .non))) H) a2 (fun x vx bx F μ σ H Q s rx o => by rw [rx.non_iff]; exact okV o s rfl) ρ bx F μ σ H Q s n o
theorem notN_ok {j : Nat} {pos' : Pos} {ma : ME} (ha : SE X CA W a ma) : ∃ te, PE X (.Compare a [.IsNot] [.Constant .none j pos'] pos) te ∧ PT X (.Compare a [.IsNot] [.Constant .none j pos'] pos) (tB te) ∧
    ∀ ρ bx F μ σ H Q, Sx X.K CA F μ H bx → En X.K CA F μ H ρ σ → OkG X.K CA W F μ σ H (fun F' H' => RRv X.K CA F' μ H H') (mUn notN ma ρ bx) Q → te σ H Q := by
  obtain ⟨ta, a1, a2⟩ := ha.dat
  refine ⟨_, pe_cmp (pc_notN a1) (by rfl), pt_cmp (pc_notN a1) (by rfl), fun ρ bx F μ σ H Q s n o => ?_⟩
  refine un_ok (g := notN) (r := fun x H Q => Q (.bl (!decide (x = .non))) H) a2 (fun x vx bx F μ σ H Q s rx o => ?_) ρ bx F μ σ H Q s n o
  rw [rx.non_iff]
  exact okV o s rfl
theorem se_isN {j : Nat} {pos' : Pos} {ma : ME} (ha : SE X CA W a ma) : SE X CA W (.Compare a [.Is] [.Constant .none j pos'] pos) (mUn isN ma) := let ⟨te, h1, _, h3⟩ := isN_ok ha; ⟨te, h1, h3⟩
theorem se_notN {j : Nat} {pos' : Pos} {ma : ME} (ha : SE X CA W a ma) : SE X CA W (.Compare a [.IsNot] [.Constant .none j pos'] pos) (mUn notN ma) := let ⟨te, h1, _, h3⟩ := notN_ok ha; ⟨te, h1, h3⟩
theorem st_isN {j : Nat} {pos' : Pos} {ma : ME} (ha : SE X CA W a ma) : ST X CA W (.Compare a [.Is] [.Constant .none j pos'] pos) (mTest (mUn isN ma)) := let ⟨te, _, h2, h3⟩ := isN_ok ha; ⟨_, h2, test_ok h3⟩
theorem st_notN {j : Nat} {pos' : Pos} {ma : ME} (ha : SE X CA W a ma) : ST X CA W (.Compare a [.IsNot] [.Constant .none j pos'] pos) (mTest (mUn notN ma)) := let ⟨te, _, h2, h3⟩ := notN_ok ha; ⟨_, h2, test_ok h3⟩
/-! ### equality of data -/
mutual
def D.toP : D → Option PyData
  | .non => some .none
  | .bl b => some (.bool b)
  | .int i => some (.int i)
  | .str x => some (.str x)
  | .tup ds => match D.toPs ds with
    | some ps => some (.tuple ps)
    | none => none
  | .lst ds => match D.toPs ds with
    | some ps => some (.list ps)
    | none => none
  | .rol ds => match D.toPs ds with
    | some ps => some (.list ps)
    | none => none
  | .ins _ _ _ => none
  | .dk _ _ => none
  | .dt _ _ => none
  | .box _ => none
  | .adr _ => none
  | .ty _ => none
def D.toPs : List D → Option (List PyData)
  | [] => some []
  | d :: ds => match D.toP d, D.toPs ds with
    | some p, some ps => some (p :: ps)
    | _, _ => none
end
def D.toPB (bx : List D) (d : D) : Option PyData := match d with
  | .box n => match bx[n]? with
    | some (.lst ds) => match D.toPs ds with
      | some ps => some (.list ps)
      | none => none
    | _ => none
  | d => d.toP
section
variable {K : PySem.W.Frag} {F : Addr → Prop} {μ : List Addr} {H : Hp} {bx : List D}
mutual
theorem toP_ok : ∀ {d : D} {v : V} {p : PyData}, Rp K CA F μ H d v → d.toP = some p → Dp K H v p
  | .non, _, _, r, e => by cases e; rw [show _ = V.non from r]; exact .non
  | .bl b, _, _, r, e => by cases e; rw [show _ = V.bl b from r]; exact .bl b
  | .int i, _, _, r, e => by cases e; rw [show _ = V.int i from r]; exact .int i
  | .str x, _, _, r, e => by cases e; rw [show _ = V.str x from r]; exact .str x
  | .tup ds, _, _, r, e => by
    obtain ⟨a, vs, q1, q2, q3⟩ := r
    unfold D.toP at e
    cases q : D.toPs ds with
    | none => simp only [q] at e; cases e
    | some ps => simp only [q] at e; cases e; rw [q1]; exact .tup q2.sq (toPs_ok q3 q)
  | .lst ds, _, _, r, e => by
    obtain ⟨a, vs, q1, q2, q3⟩ := r
    unfold D.toP at e
    cases q : D.toPs ds with
    | none => simp only [q] at e; cases e
    | some ps => simp only [q] at e; cases e; rw [q1]; exact .lst q2.sq (toPs_ok q3 q)
  | .rol ds, _, _, r, e => by
    obtain ⟨a, vs, q1, q2, q3⟩ := r
    unfold D.toP at e
    cases q : D.toPs ds with
    | none => simp only [q] at e; cases e
    | some ps => simp only [q] at e; cases e; rw [q1]; exact .lst q2.sq (toPs_ok q3 q)
  | .ins _ _ _, _, _, _, e => by unfold D.toP at e; cases e
  | .dk _ _, _, _, _, e => by unfold D.toP at e; cases e
  | .dt _ _, _, _, _, e => by unfold D.toP at e; cases e
  | .box _, _, _, _, e => by unfold D.toP at e; cases e
  | .adr _, _, _, _, e => by unfold D.toP at e; cases e
  | .ty _, _, _, _, e => by unfold D.toP at e; cases e
theorem toPs_ok : ∀ {ds : List D} {vs : List V} {ps : List PyData}, Rps K CA F μ H ds vs → D.toPs ds = some ps → DpAll K H vs ps
  | [], [], _, _, e => by unfold D.toPs at e; cases e; exact .nil
  | d :: ds, v :: vs, _, r, e => by
    unfold D.toPs at e
    cases q : d.toP with
    | none => simp only [q] at e; cases e
    | some p => cases q2 : D.toPs ds with
      | none => simp only [q, q2] at e; cases e
      | some ps => simp only [q, q2] at e; cases e; exact .cons (toP_ok r.1 q) (toPs_ok r.2 q2)
  | [], _ :: _, _, r, _ => r.elim
  | _ :: _, [], _, r, _ => r.elim
end
theorem toPB_ok {d : D} {v : V} {p : PyData} (s : Sx K CA F μ H bx) (r : Rp K CA F μ H d v) (e : d.toPB bx = some p) : Dp K H v p := by
  unfold D.toPB at e
  cases d with
  | box n =>
    cases hb : bx[n]? with
    | none => simp only [hb] at e; cases e
    | some d' => cases d' with
      | lst ds =>
        simp only [hb] at e
        cases q : D.toPs ds with
        | none => simp only [q] at e; cases e
        | some ps =>
          simp only [q] at e; cases e
          obtain ⟨a, q1, q2⟩ := r
          obtain ⟨vs, w1, w2⟩ := s.at_ n _ a hb q2
          rw [q1]; exact .lst (.inl (.inl w1)) (toPs_ok w2 q)
      | _ => simp only [hb] at e; cases e
  | _ => exact toP_ok r e
end
def eqD : D → D → List D → Out R := fun x y bx => match x.toPB bx, y.toPB bx with
  | some p, some q => if SeqAt.shaped p = true ∧ SeqAt.shaped q = true then OK (.bl (PyData.eqv p q)) bx else .stk
  | _, _ => .stk
def neD : D → D → List D → Out R := fun x y bx => match x.toPB bx, y.toPB bx with
  | some p, some q => if SeqAt.shaped p = true ∧ SeqAt.shaped q = true then OK (.bl (!PyData.eqv p q)) bx else .stk
  | _, _ => .stk
theorem dop_eqD (hu : X.A.units + 64 < cLine) : DOp X CA W (compareOp .Eq) eqD := by
  refine ⟨_, op_eqD hu, fun x y vx vy bx F μ σ H Q s rx ry o => ?_⟩
  unfold eqD at o
  cases hx : x.toPB bx with
  | none => simp only [hx] at o; exact o.elim
  | some p => cases hy : y.toPB bx with
    | none => simp only [hx, hy] at o; exact o.elim
    | some q =>
      simp only [hx, hy] at o
      obtain ⟨hl, o⟩ := okIf o
      exact ⟨p, q, toPB_ok s rx hx, toPB_ok s ry hy, hl.1, hl.2, okV o s rfl⟩
theorem dop_neD (hu : X.A.units + 64 < cLine) : DOp X CA W (compareOp .NotEq) neD := by
  refine ⟨_, op_neD hu, fun x y vx vy bx F μ σ H Q s rx ry o => ?_⟩
  unfold neD at o
  cases hx : x.toPB bx with
  | none => simp only [hx] at o; exact o.elim
  | some p => cases hy : y.toPB bx with
    | none => simp only [hx, hy] at o; exact o.elim
    | some q =>
      simp only [hx, hy] at o
      obtain ⟨hl, o⟩ := okIf o
      exact ⟨p, q, toPB_ok s rx hx, toPB_ok s ry hy, hl.1, hl.2, okV o s rfl⟩
/-! ### items -/
def ixD : D → D → List D → Out R := fun x y bx => match y with
  | .int i => (match x.sL bx with
    | some ds => (match L2.atI ds i with
      | some d => OK d bx
      | none => .stk)
    | none => match x with
      | .tup ds => (match L2.atI ds i with
        | some d => OK d bx
        | none => .stk)
      | .str z => if z.length ≤ sizeLine then (match L2.atI z.cps.toList i with
        | some c => OK (.str ⟨#[c]⟩) bx
        | none => .stk) else .stk
      | _ => .stk)
  | _ => .stk
theorem ix_ok : ∀ x y vx vy bx F μ σ H Q, Sx X.K CA F μ H bx → Rp X.K CA F μ H x vx → Rp X.K CA F μ H y vy → OkG X.K CA W F μ σ H (fun F' H' => RRv X.K CA F' μ H H') (ixD x y bx) Q → rIx X.K vx vy H Q := by
  intro x y vx vy bx F μ σ H Q s rx ry o
  unfold ixD at o
  cases y with
  | int i =>
    simp only at o
    cases hx : x.sL bx with
    | some ds =>
      simp only [hx] at o
      cases hi : L2.atI ds i with
      | none => simp only [hi] at o; exact o.elim
      | some d =>
        simp only [hi] at o
        obtain ⟨p, vs, q1, q2, q3⟩ := sL_at s rx hx
        obtain ⟨v, w1, w2⟩ := q3.atI hi
        exact .inl ⟨p, vs, i, v, q1, ry, q2, w1, okV o s w2⟩
    | none =>
      simp only [hx] at o
      cases x with
      | tup ds =>
        simp only at o
        cases hi : L2.atI ds i with
        | none => simp only [hi] at o; exact o.elim
        | some d =>
          simp only [hi] at o
          obtain ⟨p, vs, q1, q2, q3⟩ := rx
          obtain ⟨v, w1, w2⟩ := q3.atI hi
          exact .inr (.inl ⟨p, vs, i, v, q1, ry, q2.sq, w1, okV o s w2⟩)
      | str z =>
        simp only at o
        obtain ⟨hl, o⟩ := okIf o
        cases hi : L2.atI z.cps.toList i with
        | none => simp only [hi] at o; exact o.elim
        | some c =>
          simp only [hi] at o
          exact .inr (.inr ⟨z, i, c, rx, ry, hl, hi, okV o s rfl⟩)
      | _ => exact o.elim
  | _ => exact o.elim
theorem se_ix {ma mb : ME} (ha : SE X CA W a ma) (hb : SE X CA W b mb) (hs : PlainIx b := by exact fun _ _ => rfl) : SE X CA W (.Subscript a b pos) (mBin ixD ma mb) := by
  obtain ⟨ta, a1, a2⟩ := ha.dat
  obtain ⟨tb, b1, b2⟩ := hb.dat
  exact ⟨_, pe_ix ix_seq a1 b1 hs, bin_ok a2 b2 ix_ok⟩
end
end DL

set_option Elab.async false
set_option linter.all false
set_option maxRecDepth 100000
set_option maxHeartbeats 4000000
/-! DL7: slices, stores, methods of lists, built-in functions. -/
namespace DL
open PySem PySem.Spec L2
section
variable {X : Cx} {CA : Ly} {W : WX} {e a b c : Expr} {es : List Expr} {pos p2 : Pos}
/-! ### slices -/
def cutD (xs : List D) (lo hi : Option Int) : List D := (xs.drop (HT.sIx xs.length 0 lo)).take (HT.sIx xs.length xs.length hi - HT.sIx xs.length 0 lo)
theorem cut_ok {K : PySem.W.Frag} {F : Addr → Prop} {μ : List Addr} {H : Hp} {ds : List D} {vs : List V} {lo hi : Option Int} (r : Rps K CA F μ H ds vs) : Rps K CA F μ H (cutD ds lo hi) (cutV vs lo hi) := by
  unfold cutD cutV
  rw [r.length]
  exact (r.drop _).take _
abbrev MP := Sl → List D → Out (Option Int)
def pNone : MP := fun _ bx => .ok none bx
def pSome (m : ME) : MP := fun ρ bx => (m ρ bx).bind fun r b => match r.d with
  | .int i => .ok (some i) b
  | _ => .stk
variable (X CA W) in
structure SO (e : Option Expr) (m : MP) : Prop where
  ex : ∃ t, PO X e t ∧ ∀ ρ bx F μ σ H Q, Sx X.K CA F μ H bx → En X.K CA F μ H ρ σ → OkG X.K CA W F μ σ H (fun _ _ (x y : Option Int) => y = x) (m ρ bx) Q → t σ H Q
theorem so_none : SO X CA W none pNone := ⟨_, po_none, fun ρ bx F μ σ H Q s n o => o none F H Ext.refl s rfl⟩
theorem so_some {m : ME} (h : SE X CA W e m) : SO X CA W (some e) (pSome m) := by
  obtain ⟨t, t1, t2⟩ := h.dat
  refine ⟨_, po_some t1, fun ρ bx F μ σ H Q s n o => t2 ρ bx F μ σ H _ s n ?_⟩
  have o' : OkG X.K CA W F μ σ H (fun _ _ (x y : Option Int) => y = x) (((m ρ bx).map R.d).bind fun d b => match d with | .int i => .ok (some i) b | _ => .stk) Q := by rw [map_bind]; exact o
  refine o'.seq fun d b v F1 H1 e1 s1 rr o1 => ?_
  cases d with
  | int i => exact ⟨i, rr, o1 (some i) F1 H1 e1 s1 rfl⟩
  | _ => exact o1.elim
def slD (x : D) (lo hi : Option Int) (bx : List D) : Out R := match x.sL bx with
  | some ds => .ok (.new (.lst (cutD ds lo hi))) bx
  | none => match x with
    | .tup ds => OK (.tup (cutD ds lo hi)) bx
    | _ => .stk
def mSlice (m : ME) (l h : MP) : ME := fun ρ bx => (m ρ bx).bind fun r b => (l ρ b).bind fun lo b1 => (h ρ b1).bind fun hi b2 => slD r.d lo hi b2
theorem se_slice {lo hi : Option Expr} {m : ME} {ml mh : MP} (he : SE X CA W e m) (hl : SO X CA W lo ml) (hh : SO X CA W hi mh) : SE X CA W (.Subscript e (.Slice lo hi none p2) pos) (mSlice m ml mh) := by
  obtain ⟨t, t1, t2⟩ := he.dat
  obtain ⟨u, u1, u2⟩ := hl.ex
  obtain ⟨w, w1, w2⟩ := hh.ex
  refine ⟨_, pe_slice (sl_list.or sl_tupA) t1 u1 w1, fun ρ bx F μ σ H Q s n o => t2 ρ bx F μ σ H _ s n ?_⟩
  have o' : OkG X.K CA W F μ σ H (fun F' H' => RRv X.K CA F' μ H H') (((m ρ bx).map R.d).bind fun d b => (ml ρ b).bind fun lo b1 => (mh ρ b1).bind fun hi b2 => slD d lo hi b2) Q := by rw [map_bind]; exact o
  refine o'.seq fun d b v F1 H1 e1 s1 rr o1 => ?_
  refine u2 ρ b F1 μ σ H1 _ s1 (n.ext s e1) ?_
  refine OkG.seq (rel2 := fun F' H' => RRv X.K CA F' μ H1 H') (Q := Q) (OkG.shiftR e1 o1) fun lo b1 lo' F2 H2 e2 s2 el o2 => ?_
  subst el
  refine w2 ρ b1 F2 μ σ H2 _ s2 ((n.ext s e1).ext s1 e2) ?_
  refine OkG.seq (rel2 := fun F' H' => RRv X.K CA F' μ H2 H') (Q := Q) (OkG.shiftR e2 o2) fun hi b2 hi' F3 H3 e3 s3 eh o3 => ?_
  subst eh
  have o4 := OkG.shiftR e3 o3
  have r3 := (rr.ext s1 e2).ext s2 e3
  unfold slD at o4
  cases hx : d.sL b2 with
  | some ds =>
    simp only [hx] at o4
    obtain ⟨p, vs, q1, q2, q3⟩ := sL_at s3 r3 hx
    exact .inl ⟨p, vs, q1, q2, okL o4 s3 (cut_ok q3)⟩
  | none =>
    simp only [hx] at o4
    cases d with
    | tup ds =>
      have r3' := r3
      have o4 : OkG X.K CA W F3 μ σ H3 (fun F' H' => RRv X.K CA F' μ H3 H') (OK (D.tup (cutD ds lo' hi')) b2) Q := o4
      obtain ⟨p, vs, q1, q2, q3⟩ := r3
      refine .inr ⟨p, vs, q1, q2.sq, fun hw => ?_, fun _ => okT o4 s3 (cut_ok q3)⟩
      have : cutD ds lo' hi' = ds := by
        unfold cutD
        rw [q3.length, hw.1, hw.2, List.drop_zero, Nat.sub_zero, ← q3.length, List.take_length]
      rw [this] at o4
      subst q1
      exact okV o4 s3 r3'
    | _ => exact o4.elim
/-! ### o[i] = v, o a box's list -/
def setD (o i v : D) (bx : List D) : Option (List D) := match o, i with
  | .box n, .int k => (match bx[n]? with
    | some (.lst ds) => (match ixN ds.length k with
      | some j => some (bx.set n (.lst (ds.set j v)))
      | none => none)
    | _ => none)
  | _, _ => none
def mSetIx (m mo mi : ME) : MS := fun ρ bx => liftE (m ρ bx) ρ fun v b => liftE (mo ρ b) ρ fun o b1 => liftE (mi ρ b1) ρ fun i b2 => match setD o.d i.d v.d b2 with
  | some b3 => .nx ρ b3
  | none => .stk
theorem OkS.shiftE {K : PySem.W.Frag} {F F1 : Addr → Prop} {μ : List Addr} {H H1 : Hp} {bx : List D} {D : Ends} {o : OutS} (e : Ext F μ H F1 H1) (s : Sx K CA F1 μ H1 bx) (h : OkS K CA W F μ H D o) : OkS K CA W F1 μ H1 D o := OkS.shift e.m s h
theorem ss_setIx {o i : Expr} {sp : Pos} {m mo mi : ME} (h : SE X CA W e m) (ho : SE X CA W o mo) (hi : SE X CA W i mi)
    (ha : ∀ v, assign (.Subscript o i sp) X.env v = (do
      let ov ← holding [v] (eval o X.env)
      let iv ← holding [v, ov] (eval i X.env)
      standAt sp
      holding [v, ov, iv] (setItem ov iv v)
      release [v, ov, iv] []) := by intro _; rfl)
    (hs : swapsWithSole [.Subscript o i sp] e pos.line X.env = pure false := by rfl) (hw : swappedStores [.Subscript o i sp] e X.env = pure none := by rfl)
    (h1 : (assignEach [.Subscript o i sp] X.env).map (·.2) = [assign (.Subscript o i sp) X.env] := by rfl) : SS X CA W (.Assign [.Subscript o i sp] e pos) (mSetIx m mo mi) := by
  obtain ⟨t, t1, t2⟩ := h.dat
  obtain ⟨u, u1, u2⟩ := ho.dat
  obtain ⟨w, w1, w2⟩ := hi.dat
  refine ⟨_, ps_asg t1 (pg_sub u1 w1 set_list ha) hs hw h1, fun ρ bx F μ σ H D s n o => t2 ρ bx F μ σ H _ s n ?_⟩
  have o' : OkS X.K CA W F μ H D (liftE ((m ρ bx).map R.d) ρ fun v b => liftE ((mo ρ b).map R.d) ρ fun o b1 => liftE ((mi ρ b1).map R.d) ρ fun i b2 => match setD o i v b2 with
    | some b3 => .nx ρ b3
    | none => .stk) := by
    rw [liftE_map]
    have e1 : (fun (r : R) b => liftE ((mo ρ b).map R.d) ρ fun o b1 => liftE ((mi ρ b1).map R.d) ρ fun i b2 => match setD o i r.d b2 with
      | some b3 => OutS.nx ρ b3
      | none => .stk) = fun r b => liftE (mo ρ b) ρ fun o b1 => liftE (mi ρ b1) ρ fun i b2 => match setD o.d i.d r.d b2 with
      | some b3 => OutS.nx ρ b3
      | none => .stk := by
      funext r b
      rw [liftE_map]
      congr 1
      funext o b1
      rw [liftE_map]
    rw [e1]
    exact o
  refine OkS.seqE s n o' fun v b vv F1 H1 e1 s1 rv o1 => ?_
  refine u2 ρ b F1 μ σ H1 _ s1 (n.ext s e1) (OkS.seqE s1 (n.ext s e1) (OkS.shiftE e1 s1 o1) fun od b1 ov F2 H2 e2 s2 ro o2 => ?_)
  refine w2 ρ b1 F2 μ σ H2 _ s2 ((n.ext s e1).ext s1 e2) (OkS.seqE s2 ((n.ext s e1).ext s1 e2) (OkS.shiftE e2 s2 o2) fun id b2 iv F3 H3 e3 s3 ri o3 => ?_)
  have o4 := OkS.shiftE e3 s3 o3
  have rv3 := (rv.ext s1 e2).ext s2 e3
  have ro3 := ro.ext s2 e3
  have n3 := ((n.ext s e1).ext s1 e2).ext s2 e3
  cases q : setD od id v b2 with
  | none => rw [q] at o4; exact o4.elim
  | some b3 =>
    rw [q] at o4
    unfold setD at q
    cases od with
    | box k => cases id with
      | int j =>
        simp only at q
        cases hb : b2[k]? with
        | none => simp only [hb] at q; cases q
        | some d' => cases d' with
          | lst ds =>
            simp only [hb] at q
            cases hx : ixN ds.length j with
            | none => simp only [hx] at q; cases q
            | some j' =>
              simp only [hx] at q
              cases q
              obtain ⟨p, q1, q2⟩ := ro3
              obtain ⟨vs, w1, w2⟩ := s3.at_ k _ p hb q2
              have up := okB s3 q2 (w2.set j' rv3)
              exact ⟨p, vs, j, j', q1, ri, w1, by rw [← w2.length]; exact hx, o4 σ F3 μ _ up.1.m up.2 (n3.ext s3 up.1)⟩
          | _ => simp only [hb] at q; cases q
      | _ => cases q
    | _ => cases q
/-! ### methods of built-in types -/
def DMt (X : Cx) (CA : Ly) (W : WX) (id : String) (T : String) (g : D → List D → List D → Out R) : Prop :=
  ∃ r : V → List V → Hp → VK → Prop, MtR X id r ∧ (∀ x vx bx F μ H ds, Sx X.K CA F μ H bx → Rp X.K CA F μ H x vx → (∃ bx', g x ds bx' ≠ .stk) → True) ∧
    ∀ x vx ds vs bx F μ σ H Q, Sx X.K CA F μ H bx → Rp X.K CA F μ H x vx → Rps X.K CA F μ H ds vs → OkG X.K CA W F μ σ H (fun F' H' => RRv X.K CA F' μ H H') (g x ds bx) Q → r vx vs H Q
/-- a list's method: the list is looked for ahead of the arguments -/
def mBm (g : D → List D → List D → Out R) (o : ME) (a : MA) : ME := fun ρ bx => (o ρ bx).bind fun r b => match r.d.sL b with
  | some _ => (a ρ b).bind fun ds b1 => g r.d ds b1
  | none => .stk
def DMl (X : Cx) (CA : Ly) (W : WX) (id : String) (g : D → List D → List D → Out R) : Prop :=
  ∃ r : V → List V → Hp → VK → Prop, MtR X id r ∧ ∀ x vx ds vs bx F μ σ H Q, Sx X.K CA F μ H bx → Rp X.K CA F μ H x vx → Rps X.K CA F μ H ds vs → OkG X.K CA W F μ σ H (fun F' H' => RRv X.K CA F' μ H H') (g x ds bx) Q → r vx vs H Q
theorem bm_ok {to : TE} {ta : TA} {mo : ME} {ma : MA} {g : D → List D → List D → Out R} {r : V → List V → Hp → VK → Prop}
    (ho : ∀ ρ bx F μ σ H Q, Sx X.K CA F μ H bx → En X.K CA F μ H ρ σ → OkG X.K CA W F μ σ H (fun F' H' => Rp X.K CA F' μ H') ((mo ρ bx).map R.d) Q → to σ H Q)
    (ha : ∀ ρ bx F μ σ H Q, Sx X.K CA F μ H bx → En X.K CA F μ H ρ σ → OkG X.K CA W F μ σ H (fun F' H' => Rps X.K CA F' μ H') (ma ρ bx) Q → ta σ H Q)
    (hr : ∀ x vx ds vs bx F μ σ H Q, Sx X.K CA F μ H bx → Rp X.K CA F μ H x vx → Rps X.K CA F μ H ds vs → OkG X.K CA W F μ σ H (fun F' H' => RRv X.K CA F' μ H H') (g x ds bx) Q → r vx vs H Q) :
    ∀ ρ bx F μ σ H Q, Sx X.K CA F μ H bx → En X.K CA F μ H ρ σ → OkG X.K CA W F μ σ H (fun F' H' => RRv X.K CA F' μ H H') (mBm g mo ma ρ bx) Q → tBM X.K "list" r to ta σ H Q := by
  intro ρ bx F μ σ H Q s n o
  refine ho ρ bx F μ σ H _ s n ?_
  have o' : OkG X.K CA W F μ σ H (fun F' H' => RRv X.K CA F' μ H H') (((mo ρ bx).map R.d).bind fun d b => match d.sL b with
    | some _ => (ma ρ b).bind fun ds b1 => g d ds b1
    | none => .stk) Q := by rw [map_bind]; exact o
  refine o'.seq fun d b v F1 H1 e1 s1 rv o1 => ?_
  cases q : d.sL b with
  | none => rw [q] at o1; exact o1.elim
  | some xs =>
    rw [q] at o1
    obtain ⟨p, vs, q1, q2, q3⟩ := sL_at s1 rv q
    refine ⟨by rw [q1]; exact .inl ⟨rfl, vs, q2⟩, ?_⟩
    refine ha ρ b F1 μ σ H1 _ s1 (n.ext s e1) ?_
    refine OkG.seq (rel2 := fun F' H' => RRv X.K CA F' μ H1 H') (Q := Q) (OkG.shiftR e1 o1) fun ds b1 ws F2 H2 e2 s2 rs o2 => ?_
    exact hr d v ds ws b1 F2 μ σ H2 Q s2 (rv.ext s1 e2) rs (OkG.shiftR e2 o2)
theorem se_bm {o : Expr} {name : Str} {id : String} {apos cpos : Pos} {mo : ME} {ma : MA} {g : D → List D → List D → Out R} (pa : PlainAttrs "list") (slot : Slot "list" name id) (hty : typeOf (.builtin id) = pure (.type "method_descriptor")) (hm : DMl X CA W id g) (ho : SE X CA W o mo) (ha : SA X CA W (e :: es) ma)
    (hbase : attributeBase o name X.env (eval o X.env) = eval o X.env := by rfl)
    (hfew : ((backTo cpos (starEach (e :: es) X.env)).all (fun x => !x.1) && (backToKw cpos (keywordEach [] X.env)).all (fun x => x.1.isSome)
      && decide ((e :: es).length + ([] : List Keyword).length + (if ([] : List Keyword).isEmpty then 0 else 1) < 30)) = true := by rfl)
    (hline : (apos.endLine == cpos.line) = true := by rfl) (hs : starEach (e :: es) X.env = (false, eval e X.env) :: starEach es X.env := by rfl) (hplain : (backTo cpos (starEach es X.env)).any (·.1) = false := by rfl) :
    SE X CA W (.Call (.Attribute o name apos) (e :: es) [] cpos) (mBm g mo ma) := by
  obtain ⟨r, r1, r2⟩ := hm
  obtain ⟨t, t1, t2⟩ := ho.dat
  obtain ⟨u, u1, u2⟩ := ha.ex
  exact ⟨_, pe_bm pa slot hty r1 t1 u1 hbase hfew hline hs hplain, bm_ok t2 u2 r2⟩
theorem se_bm0 {o : Expr} {name : Str} {id : String} {apos cpos : Pos} {mo : ME} {g : D → List D → List D → Out R} (pa : PlainAttrs "list") (slot : Slot "list" name id) (hty : typeOf (.builtin id) = pure (.type "method_descriptor")) (hm : DMl X CA W id g) (ho : SE X CA W o mo)
    (hbase : attributeBase o name X.env (eval o X.env) = eval o X.env := by rfl) (hline : (apos.endLine == cpos.line) = true := by rfl) : SE X CA W (.Call (.Attribute o name apos) [] [] cpos) (mBm g mo aNil) := by
  obtain ⟨r, r1, r2⟩ := hm
  obtain ⟨t, t1, t2⟩ := ho.dat
  refine ⟨_, pe_bm0 pa slot hty r1 t1 hbase hline, fun ρ bx F μ σ H Q s n o => ?_⟩
  exact bm_ok t2 (ta := tNil) (ma := aNil) (fun ρ bx F μ σ H Q s n o => o [] F H Ext.refl s trivial) r2 ρ bx F μ σ H Q s n o
def appD : D → List D → List D → Out R := fun o ds bx => match o, ds with
  | .box n, [d] => (match bx[n]? with
    | some (.lst xs) => if xs.length < sizeLine then OK .non (bx.set n (.lst (xs ++ [d]))) else .stk
    | _ => .stk)
  | _, _ => .stk
theorem dml_append : DMl X CA W "list.append" appD := by
  refine ⟨_, mt_append, fun x vx ds vs bx F μ σ H Q s rx rs o => ?_⟩
  unfold appD at o
  cases x with
  | box n =>
    match ds, vs, rs, o with
    | [d], [v], rs, o =>
      simp only at o
      cases hb : bx[n]? with
      | none => simp only [hb] at o; exact o.elim
      | some d' => cases d' with
        | lst xs =>
          simp only [hb] at o
          obtain ⟨hl, o⟩ := okIf o
          obtain ⟨p, q1, q2⟩ := rx
          obtain ⟨ws, w1, w2⟩ := s.at_ n _ p hb q2
          have up := okB s q2 (w2.append (show Rps X.K CA F μ H [d] [v] from ⟨rs.1, trivial⟩))
          exact ⟨p, ws, v, q1, rfl, w1, by rw [← w2.length]; exact hl, o .non F _ up.1 up.2 rfl⟩
        | _ => simp only [hb] at o; exact o.elim
    | [], _, _, o => exact o.elim
    | [_], [], rs, _ => exact rs.elim
    | [_], _ :: _ :: _, rs, _ => exact rs.2.elim
    | _ :: _ :: _, _, _, o => exact o.elim
  | _ => exact o.elim
def popD : D → List D → List D → Out R := fun o ds bx => match o, ds with
  | .box n, [] => (match bx[n]? with
    | some (.lst xs) => (match xs[xs.length - 1]? with
      | some y => OK y (bx.set n (.lst xs.dropLast))
      | none => .stk)
    | _ => .stk)
  | .box n, [.int i] => (match bx[n]? with
    | some (.lst xs) => if -(2 ^ 63) ≤ i ∧ i < 2 ^ 63 then (match seqIndex? i xs.length with
      | some k => (match xs[k]? with
        | some y => OK y (bx.set n (.lst (xs.eraseIdx k)))
        | none => .stk)
      | none => .stk) else .stk
    | _ => .stk)
  | _, _ => .stk
theorem Rps.erase {K : PySem.W.Frag} {F : Addr → Prop} {μ : List Addr} {H : Hp} : ∀ {ds : List D} {vs : List V} (n : Nat), Rps K CA F μ H ds vs → Rps K CA F μ H (ds.eraseIdx n) (vs.eraseIdx n)
  | [], [], _, _ => trivial
  | _ :: _, _ :: _, 0, h => h.2
  | _ :: _, _ :: _, n + 1, h => ⟨h.1, Rps.erase n h.2⟩
  | [], _ :: _, _, h => h.elim
  | _ :: _, [], _, h => h.elim
theorem dml_pop : DMl X CA W "list.pop" popD := by
  refine ⟨_, L2.MtR.or mt_pop mt_popAt, fun x vx ds vs bx F μ σ H Q s rx rs o => ?_⟩
  unfold popD at o
  cases x with
  | box n =>
    match ds, vs, rs, o with
    | [], [], rs, o =>
      simp only at o
      cases hb : bx[n]? with
      | none => simp only [hb] at o; exact o.elim
      | some d' => cases d' with
        | lst xs =>
          simp only [hb] at o
          cases hl : xs[xs.length - 1]? with
          | none => simp only [hl] at o; exact o.elim
          | some y =>
            simp only [hl] at o
            obtain ⟨p, q1, q2⟩ := rx
            obtain ⟨ws, w1, w2⟩ := s.at_ n _ p hb q2
            obtain ⟨v, v1, v2⟩ := w2.get hl
            have up := okB s q2 w2.last
            exact .inl ⟨p, ws, v, q1, rfl, w1, by rw [← w2.length]; exact v1, o v F _ up.1 up.2 (v2.ext s up.1)⟩
        | _ => simp only [hb] at o; exact o.elim
    | [.int i], [v], rs, o =>
      simp only at o
      cases hb : bx[n]? with
      | none => simp only [hb] at o; exact o.elim
      | some d' => cases d' with
        | lst xs =>
          simp only [hb] at o
          obtain ⟨hi, o⟩ := okIf o
          cases hk : seqIndex? i xs.length with
          | none => simp only [hk] at o; exact o.elim
          | some k =>
            simp only [hk] at o
            cases hl : xs[k]? with
            | none => simp only [hl] at o; exact o.elim
            | some y =>
              simp only [hl] at o
              obtain ⟨p, q1, q2⟩ := rx
              obtain ⟨ws, w1, w2⟩ := s.at_ n _ p hb q2
              obtain ⟨v', v1, v2⟩ := w2.get hl
              have up := okB s q2 (w2.erase k)
              exact .inr ⟨p, ws, i, k, v', q1, by rw [show v = .int i from rs.1], w1, hi.1, hi.2, by rw [← w2.length]; exact hk, v1, o v' F _ up.1 up.2 (v2.ext s up.1)⟩
        | _ => simp only [hb] at o; exact o.elim
    | [], _ :: _, rs, _ => exact rs.elim
    | [_], [], rs, _ => exact rs.elim
    | [_], _ :: _ :: _, rs, _ => exact rs.2.elim
    | d :: _ :: _, _, _, o => cases d <;> exact o.elim
    | [.non], [_], _, o | [.bl _], [_], _, o | [.str _], [_], _, o | [.tup _], [_], _, o | [.lst _], [_], _, o | [.rol _], [_], _, o | [.ins _ _ _], [_], _, o | [.dk _ _], [_], _, o | [.dt _ _], [_], _, o | [.box _], [_], _, o | [.adr _], [_], _, o | [.ty _], [_], _, o => exact o.elim
  | _ => exact o.elim
/-! ### built-in functions -/
def DCall (X : Cx) (CA : Ly) (W : WX) (f : Value) (g : List D → List D → Out R) : Prop :=
  ∃ r : List V → Hp → VK → Prop, CallR X f r ∧ ∀ ds vs bx F μ σ H Q, Sx X.K CA F μ H bx → Rps X.K CA F μ H ds vs → OkG X.K CA W F μ σ H (fun F' H' => RRv X.K CA F' μ H H') (g ds bx) Q → r vs H Q
def mCB (g : List D → List D → Out R) (a : MA) : ME := fun ρ bx => (a ρ bx).bind fun ds b => g ds b
theorem cb_ok {ta : TA} {ma : MA} {g : List D → List D → Out R} {r : List V → Hp → VK → Prop}
    (ha : ∀ ρ bx F μ σ H Q, Sx X.K CA F μ H bx → En X.K CA F μ H ρ σ → OkG X.K CA W F μ σ H (fun F' H' => Rps X.K CA F' μ H') (ma ρ bx) Q → ta σ H Q)
    (hr : ∀ ds vs bx F μ σ H Q, Sx X.K CA F μ H bx → Rps X.K CA F μ H ds vs → OkG X.K CA W F μ σ H (fun F' H' => RRv X.K CA F' μ H H') (g ds bx) Q → r vs H Q) :
    ∀ ρ bx F μ σ H Q, Sx X.K CA F μ H bx → En X.K CA F μ H ρ σ → OkG X.K CA W F μ σ H (fun F' H' => RRv X.K CA F' μ H H') (mCB g ma ρ bx) Q → tCB r ta σ H Q := by
  intro ρ bx F μ σ H Q s n o
  refine ha ρ bx F μ σ H _ s n ?_
  refine OkG.seq (rel2 := fun F' H' => RRv X.K CA F' μ H H') (Q := Q) o fun ds b1 ws F2 H2 e2 s2 rs o2 => ?_
  exact hr ds ws b1 F2 μ σ H2 Q s2 rs (OkG.shiftR e2 o2)
theorem se_callB {x : Str} {id : String} {p : Pos} {g : List D → List D → Out R} {ma : MA} (hc : DCall X CA W (.builtin id) g) (hg : Gl X x) (hm : X.mg x = none) (hv : bootBuiltins x = some (.builtin id)) (ha : SA X CA W (e :: es) ma) (hn : x ≠ "__name__" := by decide) (hdb : (x == ("__debug__" : Str)) = false := by decide)
    (he : starEach (e :: es) X.env = (false, eval e X.env) :: starEach es X.env := by rfl) (hpl : (backTo pos (starEach es X.env)).any (·.1) = false := by rfl) : SE X CA W (.Call (.Name x p) (e :: es) [] pos) (mCB g ma) := by
  obtain ⟨r, r1, r2⟩ := hc
  obtain ⟨u, u1, u2⟩ := ha.ex
  exact ⟨_, pe_callB r1 hg hm hv u1 hn hdb he hpl, cb_ok u2 r2⟩
theorem se_callTy {x : Str} {T : String} {p : Pos} {g : List D → List D → Out R} {ma : MA} (hc : DCall X CA W (.type T) g) (hg : Gl X x) (hm : X.mg x = none) (hv : bootBuiltins x = some (.type T)) (ha : SA X CA W (e :: es) ma) (hn : x ≠ "__name__" := by decide) (hdb : (x == ("__debug__" : Str)) = false := by decide)
    (he : starEach (e :: es) X.env = (false, eval e X.env) :: starEach es X.env := by rfl) (hpl : (backTo pos (starEach es X.env)).any (·.1) = false := by rfl) : SE X CA W (.Call (.Name x p) (e :: es) [] pos) (mCB g ma) := by
  obtain ⟨r, r1, r2⟩ := hc
  obtain ⟨u, u1, u2⟩ := ha.ex
  exact ⟨_, pe_callTy r1 hg hm hv u1 hn hdb he hpl, cb_ok u2 r2⟩
end
end DL

set_option Elab.async false
set_option linter.all false
set_option maxRecDepth 100000
set_option maxHeartbeats 4000000
/-! DL8: truth, or/and by truth, chains, built-in functions. -/
namespace GBT
open PySem PyProof.Rows
open PySem.Sem (wp)
theorem meets_bool_tup (l : Addr) (items : Array Value) (hfit : (items.size : Int) < 2 ^ 63) :
    Meets (Builtin.«bool.__new__» ⟨[.type "bool", .ref l], []⟩) (fun _ R s => IsTup s.heap l items ∧ ∀ tk, R (.ok (.ret (.bool (!items.isEmpty)))) { s with toks := tk }) :=
  Meets.of_wp fun prog w A R s hs => by
    obtain ⟨hl, hs⟩ := hs
    obtain ⟨hp, g, d, tk, os⟩ := s
    have f1 := F.conv_sub_bool
    repeat (any_goals (first | assumption | (with_reducible refine PyProof.Rows.truthy_tuple hl hfit ?_) | wp_step))
    all_goals first | exact ⟨_, rfl, hs _⟩ | exact hs _ | skip
theorem call_bool_tup {prog : Program} {w : World} {A : Around} {E : Value → Shared → Prop} {s : Shared} {l : Addr} {items : Array Value} {Q : Value → Shared → Prop} (hfit : (items.size : Int) < 2 ^ 63) (hl : IsTup s.heap l items)
    (h : ∀ tk, Q (.bool (!items.isEmpty)) { s with toks := tk }) : wpAny (model prog w) A (call (.type "bool") [.ref l]) Q E s :=
  call_bool_1 (meets_bool_tup l items hfit) ⟨hl, fun tk => ⟨rfl, h tk⟩⟩
end GBT
namespace DL
open PySem PySem.Spec L2
section
variable {X : Cx} {CA : Ly} {W : WX} {e a b c : Expr} {es : List Expr} {pos p2 : Pos}
/-! ### truth -/
def D.trs (ds : List D) : Bool := !ds.isEmpty
def D.tru (bx : List D) (d : D) : Option Bool := match d with
  | .non => some false
  | .bl b => some b
  | .int i => some (i != 0)
  | .str x => if x.length ≤ sizeLine then some ((x.length : Int) != 0) else none
  | .tup ds => some !ds.isEmpty
  | d => match d.sL bx with
    | some ds => some !ds.isEmpty
    | none => none
theorem Rps.emp {K : PySem.W.Frag} {F : Addr → Prop} {μ : List Addr} {H : Hp} {ds : List D} {vs : List V} (h : Rps K CA F μ H ds vs) : (!ds.isEmpty) = !vs.isEmpty := by
  cases ds <;> cases vs <;> first | rfl | exact h.elim
theorem tru_at {K : PySem.W.Frag} {F : Addr → Prop} {μ : List Addr} {H : Hp} {bx : List D} {d : D} {v : V} {k : Bool} (s : Sx K CA F μ H bx) (r : Rp K CA F μ H d v) (e : d.tru bx = some k) : TruV K v H k := by
  have gen : (match d.sL bx with
    | some ds => some !ds.isEmpty
    | none => none) = some k → TruV K v H k := fun e => by
    cases q : d.sL bx with
    | none => rw [q] at e; cases e
    | some ds =>
      rw [q] at e; cases e
      obtain ⟨a, vs, h1, h2, h3⟩ := sL_at s r q
      subst h1
      exact .inl ⟨vs, h2, h3.emp⟩
  cases d with
  | non => cases e; rw [show v = V.non from r]; rfl
  | bl y => cases e; rw [show v = V.bl k from r]; rfl
  | int i => cases e; rw [show v = V.int i from r]; rfl
  | str x =>
    unfold D.tru at e
    by_cases h : x.length ≤ sizeLine
    · simp only [if_pos h] at e; cases e; rw [show v = V.str x from r]; exact ⟨h, rfl⟩
    · simp only [if_neg h] at e; cases e
  | tup ds =>
    cases e
    obtain ⟨a, vs, h1, h2, h3⟩ := r
    subst h1
    exact .inr (.inl ⟨vs, h2.sq, h3.emp⟩)
  | lst ds => exact gen e
  | rol ds => exact gen e
  | box n => exact gen e
  | ins c ns ds => exact gen e
  | dk ks ds => exact gen e
  | dt ks ds => exact gen e
  | adr a => exact gen e
  | ty n => exact gen e
def truO (bx : List D) (d : D) : Out Bool := match d.tru bx with
  | some k => .ok k bx
  | none => .stk
def mTru (m : ME) : MB := fun ρ bx => (m ρ bx).bind fun r b1 => truO b1 r.d
theorem tru_ok' {K : PySem.W.Frag} {te : TE} {m : ME} (h : ∀ ρ bx F μ σ H Q, Sx K CA F μ H bx → En K CA F μ H ρ σ → OkG K CA W F μ σ H (fun F' H' => Rp K CA F' μ H') ((m ρ bx).map R.d) Q → te σ H Q) :
    ∀ ρ bx F μ σ H Q, Sx K CA F μ H bx → En K CA F μ H ρ σ → OkG K CA W F μ σ H (fun _ _ (b c : Bool) => c = b) (mTru m ρ bx) Q → te σ H (fun x H' => ∃ k, TruV K x H' k ∧ Q k H') := by
  intro ρ bx F μ σ H Q s n o
  refine h ρ bx F μ σ H _ s n ?_
  have o' : OkG K CA W F μ σ H (fun _ _ (b c : Bool) => c = b) (((m ρ bx).map R.d).bind fun d b1 => truO b1 d) Q := by rw [map_bind]; exact o
  refine o'.seq fun d b1 v F1 H1 e1 s1 rv o1 => ?_
  unfold truO at o1
  cases q : d.tru b1 with
  | none => rw [q] at o1; exact o1.elim
  | some k => rw [q] at o1; exact ⟨k, tru_at s1 rv q, o1 k F1 H1 e1 s1 rfl⟩
theorem st_tru {m : ME} (h : SE X CA W e m) (he : ∀ whole, isTrue e X.env whole = (do let v ← whole; standAt e.pos; holding [v] (truthy v)) := by intro _; rfl) : ST X CA W e (mTru m) := by
  obtain ⟨te, h1, h2⟩ := h.dat
  exact ⟨_, pt_truth h1 he, tru_ok' h2⟩
def mOrT (a b : ME) : ME := fun ρ bx => (a ρ bx).bind fun r b1 => (truO b1 r.d).bind fun k b2 => if k then .ok (.val r.d) b2 else b ρ b2
def mAndT (a b : ME) : ME := fun ρ bx => (a ρ bx).bind fun r b1 => (truO b1 r.d).bind fun k b2 => if k then b ρ b2 else .ok (.val r.d) b2
theorem se_orT {ma mb : ME} {rest : List Expr} (ha : SE X CA W a ma) (hb : SE X CA W (.BoolOp .Or (b :: rest) pos) mb) : SE X CA W (.BoolOp .Or (a :: b :: rest) pos) (mOrT ma mb) := by
  obtain ⟨ta, a1, a2⟩ := ha.dat
  obtain ⟨tb, b1, b2⟩ := hb.ex
  refine ⟨_, pe_orT a1 b1, fun ρ bx F μ σ H Q s n o => a2 ρ bx F μ σ H _ s n ?_⟩
  have o' : OkG X.K CA W F μ σ H (fun F' H' => RRv X.K CA F' μ H H') (((ma ρ bx).map R.d).bind fun d b1 => (truO b1 d).bind fun k b2 => if k then .ok (.val d) b2 else mb ρ b2) Q := by rw [map_bind]; exact o
  refine o'.seq fun d b1 v F1 H1 e1 s1 rv o1 => ?_
  unfold truO at o1
  cases q : d.tru b1 with
  | none => rw [q] at o1; exact o1.elim
  | some k =>
    rw [q] at o1
    refine ⟨k, tru_at s1 rv q, ?_⟩
    simp only [Out.bind_ok] at o1
    cases k with
    | true => exact iteT (o1 v F1 H1 e1 s1 rv)
    | false => exact iteF (b2 ρ b1 F1 μ σ H1 Q s1 (n.ext s e1) (OkG.shiftR e1 o1))
theorem se_andT {ma mb : ME} {rest : List Expr} (ha : SE X CA W a ma) (hb : SE X CA W (.BoolOp .And (b :: rest) pos) mb) : SE X CA W (.BoolOp .And (a :: b :: rest) pos) (mAndT ma mb) := by
  obtain ⟨ta, a1, a2⟩ := ha.dat
  obtain ⟨tb, b1, b2⟩ := hb.ex
  refine ⟨_, pe_andT a1 b1, fun ρ bx F μ σ H Q s n o => a2 ρ bx F μ σ H _ s n ?_⟩
  have o' : OkG X.K CA W F μ σ H (fun F' H' => RRv X.K CA F' μ H H') (((ma ρ bx).map R.d).bind fun d b1 => (truO b1 d).bind fun k b2 => if k then mb ρ b2 else .ok (.val d) b2) Q := by rw [map_bind]; exact o
  refine o'.seq fun d b1 v F1 H1 e1 s1 rv o1 => ?_
  unfold truO at o1
  cases q : d.tru b1 with
  | none => rw [q] at o1; exact o1.elim
  | some k =>
    rw [q] at o1
    refine ⟨k, tru_at s1 rv q, ?_⟩
    simp only [Out.bind_ok] at o1
    cases k with
    | false => exact iteF (o1 v F1 H1 e1 s1 rv)
    | true => exact iteT (b2 ρ b1 F1 μ σ H1 Q s1 (n.ext s e1) (OkG.shiftR e1 o1))
def mNotT (a : ME) : ME := fun ρ bx => (mTru a ρ bx).bind fun k b1 => .ok (.val (.bl (!k))) b1
theorem se_notT {ma : ME} (ha : SE X CA W a ma) : SE X CA W (.UnaryOp .Not a pos) (mNotT ma) := by
  obtain ⟨ta, a1, a2⟩ := ha.dat
  refine ⟨_, pe_notT a1, fun ρ bx F μ σ H Q s n o => ?_⟩
  refine tru_ok' a2 ρ bx F μ σ H (fun k H1 => Q (.bl (!k)) H1) s n ?_
  refine OkG.seq (rel2 := fun F' H' => RRv X.K CA F' μ H H') (Q := Q) o fun x b1 c F1 H1 e1 s1 ec o1 => ?_
  subst ec
  exact o1 (.bl (!c)) F1 H1 e1 s1 rfl
/-! ### a op b op c -/
def mChain (g g' : D → D → List D → Out R) (a b c : ME) : ME := fun ρ bx => (a ρ bx).bind fun x b1 => (b ρ b1).bind fun y b2 => (g x.d y.d b2).bind fun z b3 => match z with
  | .val (.bl k) => if k then (c ρ b3).bind fun w b4 => g' y.d w.d b4 else .ok (.val (.bl false)) b3
  | _ => .stk
theorem chain_ok {op op' : CmpOp} {g g' : D → D → List D → Out R} {ma mb mc : ME} (ho : DOp X CA W (compareOp op) g) (ho' : DOp X CA W (compareOp op') g') (ha : SE X CA W a ma) (hb : SE X CA W b mb) (hc : SE X CA W c mc) :
    ∃ r r' ta tb tc, OpR X (compareOp op) r ∧ OpR X (compareOp op') r' ∧ PE X a ta ∧ PE X b tb ∧ PE X c tc ∧ ∀ ρ bx F μ σ H Q, Sx X.K CA F μ H bx → En X.K CA F μ H ρ σ → OkG X.K CA W F μ σ H (fun F' H' => RRv X.K CA F' μ H H') (mChain g g' ma mb mc ρ bx) Q → tChain r r' ta tb tc σ H Q := by
  obtain ⟨r, h1, h2⟩ := ho
  obtain ⟨r', h1', h2'⟩ := ho'
  obtain ⟨ta, a1, a2⟩ := ha.dat
  obtain ⟨tb, b1, b2⟩ := hb.dat
  obtain ⟨tc, c1, c2⟩ := hc.dat
  refine ⟨r, r', ta, tb, tc, h1, h1', a1, b1, c1, fun ρ bx F μ σ H Q s n o => a2 ρ bx F μ σ H _ s n ?_⟩
  have o' : OkG X.K CA W F μ σ H (fun F' H' => RRv X.K CA F' μ H H') (((ma ρ bx).map R.d).bind fun x b1 => (mb ρ b1).bind fun y b2 => (g x y.d b2).bind fun z b3 => match z with
    | .val (.bl k) => if k then (mc ρ b3).bind fun w b4 => g' y.d w.d b4 else .ok (.val (.bl false)) b3
    | _ => .stk) Q := by rw [map_bind]; exact o
  refine o'.seq fun x b1 vx F1 H1 e1 s1 rx o1 => ?_
  refine b2 ρ b1 F1 μ σ H1 _ s1 (n.ext s e1) ?_
  have o2 : OkG X.K CA W F1 μ σ H1 (fun F' H' => RRv X.K CA F' μ H1 H') (((mb ρ b1).map R.d).bind fun y b2 => (g x y b2).bind fun z b3 => match z with
    | .val (.bl k) => if k then (mc ρ b3).bind fun w b4 => g' y w.d b4 else .ok (.val (.bl false)) b3
    | _ => .stk) Q := by rw [map_bind]; exact o1.shiftR e1
  refine o2.seq fun y b2 vy F2 H2 e2 s2 ry o3 => ?_
  have n2 := (n.ext s e1).ext s1 e2
  refine h2 x y vx vy b2 F2 μ σ H2 _ s2 (rx.ext s1 e2) ry ?_
  refine OkG.seq (rel2 := fun F' H' => RRv X.K CA F' μ H2 H') (Q := Q) (o3.shiftR e2) fun z b3 vz F3 H3 e3 s3 rz o4 => ?_
  cases z with
  | new d => exact o4.elim
  | val d => cases d with
    | bl k =>
      refine ⟨k, rz, ?_⟩
      cases k with
      | false => exact iteF (o4 (.bl false) F3 H3 e3 s3 rfl)
      | true =>
        refine iteT (c2 ρ b3 F3 μ σ H3 _ s3 (n2.ext s2 e3) ?_)
        have o5 : OkG X.K CA W F3 μ σ H3 (fun F' H' => RRv X.K CA F' μ H3 H') (((mc ρ b3).map R.d).bind fun w b4 => g' y w b4) Q := by rw [map_bind]; exact (OkG.shiftR e3 o4)
        refine o5.seq fun w b4 vw F4 H4 e4 s4 rw' o6 => ?_
        exact h2' y w vy vw b4 F4 μ σ H4 Q s4 ((ry.ext s2 e3).ext s3 e4) rw' (o6.shiftR e4)
    | _ => exact o4.elim
theorem se_chain {op op' : CmpOp} {g g' : D → D → List D → Out R} {ma mb mc : ME} (ho : DOp X CA W (compareOp op) g) (ho' : DOp X CA W (compareOp op') g') (ha : SE X CA W a ma) (hb : SE X CA W b mb) (hc : SE X CA W c mc)
    (hm : lastMarks [op, op'] [b, c] = false := by with_unfolding_all rfl) : SE X CA W (.Compare a [op, op'] [b, c] pos) (mChain g g' ma mb mc) := by
  obtain ⟨r, r', ta, tb, tc, h1, h2, h3, h4, h5, h6⟩ := chain_ok ho ho' ha hb hc
  exact ⟨_, pe_chain h1 h2 h3 h4 h5 hm, h6⟩
theorem st_chain {op op' : CmpOp} {g g' : D → D → List D → Out R} {ma mb mc : ME} (ho : DOp X CA W (compareOp op) g) (ho' : DOp X CA W (compareOp op') g') (ha : SE X CA W a ma) (hb : SE X CA W b mb) (hc : SE X CA W c mc)
    (hm : lastMarks [op, op'] [b, c] = false := by with_unfolding_all rfl) : ST X CA W (.Compare a [op, op'] [b, c] pos) (mTest (mChain g g' ma mb mc)) := by
  obtain ⟨r, r', ta, tb, tc, h1, h2, h3, h4, h5, h6⟩ := chain_ok ho ho' ha hb hc
  exact ⟨_, pt_chain h1 h2 h3 h4 h5 hm, test_ok h6⟩
/-! ### built-in functions -/
theorem DCall.or {f : Value} {g g' : List D → List D → Out R} (h : DCall X CA W f g) (h' : DCall X CA W f g') : DCall X CA W f (fun ds bx => match g ds bx with | .stk => g' ds bx | o => o) := by
  obtain ⟨r, h1, h2⟩ := h
  obtain ⟨r', h1', h2'⟩ := h'
  refine ⟨_, h1.or h1', fun ds vs bx F μ σ H Q s rs o => ?_⟩
  cases q : g ds bx with
  | ok a b => simp only [q] at o; exact .inl (h2 ds vs bx F μ σ H Q s rs (by rw [q]; exact o))
  | exn c ns es b => simp only [q] at o; exact .inl (h2 ds vs bx F μ σ H Q s rs (by rw [q]; exact o))
  | stk => simp only [q] at o; exact .inr (h2' ds vs bx F μ σ H Q s rs o)
/-- one argument -/
def un1 (g : D → List D → Out R) : List D → List D → Out R
  | [d], bx => g d bx
  | _, _ => .stk
def un2 (g : D → D → List D → Out R) : List D → List D → Out R
  | [d, d'], bx => g d d' bx
  | _, _ => .stk
theorem dc1 {f : Value} {g : D → List D → Out R} {r : List V → Hp → VK → Prop} (h : CallR X f r)
    (hr : ∀ d v bx F μ σ H Q, Sx X.K CA F μ H bx → Rp X.K CA F μ H d v → OkG X.K CA W F μ σ H (fun F' H' => RRv X.K CA F' μ H H') (g d bx) Q → r [v] H Q) : DCall X CA W f (un1 g) := by
  refine ⟨r, h, fun ds vs bx F μ σ H Q s rs o => ?_⟩
  match ds, vs, rs, o with
  | [d], [v], rs, o => exact hr d v bx F μ σ H Q s rs.1 o
  | [], _, _, o => exact o.elim
  | _ :: _ :: _, _, _, o => exact o.elim
  | [_], [], rs, _ => exact rs.elim
  | [_], _ :: _ :: _, rs, _ => exact rs.2.elim
theorem dc2 {f : Value} {g : D → D → List D → Out R} {r : List V → Hp → VK → Prop} (h : CallR X f r)
    (hr : ∀ d v d' v' bx F μ σ H Q, Sx X.K CA F μ H bx → Rp X.K CA F μ H d v → Rp X.K CA F μ H d' v' → OkG X.K CA W F μ σ H (fun F' H' => RRv X.K CA F' μ H H') (g d d' bx) Q → r [v, v'] H Q) : DCall X CA W f (un2 g) := by
  refine ⟨r, h, fun ds vs bx F μ σ H Q s rs o => ?_⟩
  match ds, vs, rs, o with
  | [d, d'], [v, v'], rs, o => exact hr d v d' v' bx F μ σ H Q s rs.1 rs.2.1 o
  | [], _, _, o => exact o.elim
  | [_], _, _, o => exact o.elim
  | _ :: _ :: _ :: _, _, _, o => exact o.elim
  | [_, _], [], rs, _ => exact rs.elim
  | [_, _], [_], rs, _ => exact rs.2.elim
  | [_, _], _ :: _ :: _ :: _, rs, _ => exact rs.2.2.elim
def lenD : D → List D → Out R := fun d bx => match d.sq bx with
  | some ds => OK (.int ds.length) bx
  | none => .stk
theorem dc_len : DCall X CA W (.builtin "len") (un1 lenD) := dc1 call_len_seq fun d v bx F μ σ H Q s r o => by
  unfold lenD at o
  cases q : d.sq bx with
  | none => rw [q] at o; exact o.elim
  | some ds =>
    rw [q] at o
    obtain ⟨a, vs, h1, h2, h3⟩ := sq_at s r q
    exact ⟨a, vs, by rw [h1], h2, okV o s (by rw [h3.length]; rfl)⟩
def lenS : D → List D → Out R
  | .str x, bx => if x.length ≤ sizeLine then OK (.int x.length) bx else .stk
  | _, _ => .stk
theorem dc_lenS : DCall X CA W (.builtin "len") (un1 lenS) := dc1 call_len_str fun d v bx F μ σ H Q s r o => by
  cases d <;> first | exact o.elim | skip
  rename_i x
  obtain ⟨hl, o⟩ := okIf (show OkG X.K CA W F μ σ H (fun F' H' => RRv X.K CA F' μ H H') (if x.length ≤ sizeLine then OK (.int x.length) bx else .stk) Q from o)
  exact ⟨x, by rw [show v = V.str x from r], hl, okV o s rfl⟩
def absD : D → List D → Out R
  | .int i, bx => OK (.int (if i < 0 then -i else i)) bx
  | _, _ => .stk
theorem dc_abs : DCall X CA W (.builtin "abs") (un1 absD) := dc1 call_abs fun d v bx F μ σ H Q s r o => by
  cases d <;> first | exact o.elim | skip
  rename_i i
  exact ⟨i, by rw [show v = V.int i from r], okV o s rfl⟩
def intD : D → List D → Out R
  | .int i, bx => OK (.int i) bx
  | .bl k, bx => OK (.int (if k then 1 else 0)) bx
  | _, _ => .stk
theorem dc_int : DCall X CA W (.type "int") (un1 intD) := dc1 call_int1 fun d v bx F μ σ H Q s r o => by
  cases d <;> first | exact o.elim | skip
  · rename_i k
    exact .inr ⟨k, by rw [show v = V.bl k from r], okV o s rfl⟩
  · rename_i i
    exact .inl ⟨i, by rw [show v = V.int i from r], okV o s rfl⟩
theorem call_boolT : CallR X (.type "bool") (fun xs H Q => ∃ (a : Addr) (zs : List V), xs = [.ref a] ∧ SqT X.K H a zs ∧ Q (.bl (!zs.isEmpty)) H) := by
  intro pins s σ H xs us Q I r h
  obtain ⟨a, zs, rfl, hq, q⟩ := h
  obtain rfl := Vals.ref1 r
  obtain ⟨its, rv, pl, hz⟩ := I.tuple hq
  have hl := line63
  have hlen := rv.length
  refine GBT.call_bool_tup (by simp only [List.size_toArray]; omega) pl fun tk => ?_
  exact ⟨.bl (!zs.isEmpty), H, I.tok _, by rw [isEmpty_of rv]; rfl, q⟩
def boolD : D → List D → Out R
  | .int i, bx => OK (.bl (i != 0)) bx
  | .bl k, bx => OK (.bl k) bx
  | .tup ds, bx => OK (.bl (!ds.isEmpty)) bx
  | d, bx => match d.sL bx with
    | some ds => OK (.bl (!ds.isEmpty)) bx
    | none => .stk
theorem dc_bool : DCall X CA W (.type "bool") (un1 boolD) := dc1 ((call_bool1.or call_boolT).or call_boolL) fun d v bx F μ σ H Q s r o => by
  have gen : OkG X.K CA W F μ σ H (fun F' H' => RRv X.K CA F' μ H H') (match d.sL bx with
    | some ds => OK (.bl (!ds.isEmpty)) bx
    | none => .stk) Q → ∃ (a : Addr) (zs : List V), [v] = [V.ref a] ∧ SqL X.K H a zs ∧ Q (.bl (!zs.isEmpty)) H := fun o => by
    cases q : d.sL bx with
    | none => rw [q] at o; exact o.elim
    | some ds =>
      rw [q] at o
      obtain ⟨a, vs, h1, h2, h3⟩ := sL_at s r q
      exact ⟨a, vs, by rw [h1], h2, okV o s (by rw [h3.emp]; rfl)⟩
  cases d with
  | int i => exact .inl (.inl (.inl ⟨i, by rw [show v = V.int i from r], okV o s rfl⟩))
  | bl k => exact .inl (.inl (.inr ⟨k, by rw [show v = V.bl k from r], okV o s rfl⟩))
  | tup ds =>
    have o' : OkG X.K CA W F μ σ H (fun F' H' => RRv X.K CA F' μ H H') (OK (.bl (!ds.isEmpty)) bx) Q := o
    obtain ⟨a, vs, h1, h2, h3⟩ := r
    exact .inl (.inr ⟨a, vs, by rw [h1], h2.sq, okV o' s (by rw [h3.emp]; rfl)⟩)
  | _ => exact .inr (gen o)
def listD : D → List D → Out R := fun d bx => match d.sq bx with
  | some ds => .ok (.new (.lst ds)) bx
  | none => .stk
theorem dc_list : DCall X CA W (.type "list") (un1 listD) := dc1 call_list_of fun d v bx F μ σ H Q s r o => by
  unfold listD at o
  cases q : d.sq bx with
  | none => rw [q] at o; exact o.elim
  | some ds =>
    rw [q] at o
    obtain ⟨a, vs, h1, h2, h3⟩ := sq_at s r q
    exact ⟨a, vs, by rw [h1], h2, okL o s h3⟩
def tupD : D → List D → Out R := fun d bx => match d with
  | .tup ds => OK (.tup ds) bx
  | d => match d.sL bx with
    | some ds => OK (.tup ds) bx
    | none => .stk
theorem dc_tuple : DCall X CA W (.type "tuple") (un1 tupD) := dc1 call_tuple_of fun d v bx F μ σ H Q s r o => by
  have gen : OkG X.K CA W F μ σ H (fun F' H' => RRv X.K CA F' μ H H') (match d.sL bx with
    | some ds => OK (.tup ds) bx
    | none => .stk) Q → ∃ (p : Addr) (ys : List V), [v] = [.ref p] ∧ ((SqL X.K H p ys ∧ ∀ l, H l = none → Q (.ref l) (upd H l (.tup ys))) ∨ (SqT X.K H p ys ∧ Q (.ref p) H)) := fun o => by
    cases q : d.sL bx with
    | none => rw [q] at o; exact o.elim
    | some ds =>
      rw [q] at o
      obtain ⟨a, vs, h1, h2, h3⟩ := sL_at s r q
      exact ⟨a, vs, by rw [h1], .inl ⟨h2, okT o s h3⟩⟩
  cases d with
  | tup ds =>
    have o' : OkG X.K CA W F μ σ H (fun F' H' => RRv X.K CA F' μ H H') (OK (.tup ds) bx) Q := o
    have r' := r
    obtain ⟨a, vs, h1, h2, h3⟩ := r
    subst h1
    exact ⟨a, vs, rfl, .inr ⟨h2.sq, okV o' s r'⟩⟩
  | _ => exact gen o
/-- a list of bools, of ints -/
def D.bls : List D → Option (List Bool)
  | [] => some []
  | .bl b :: ds => (D.bls ds).map (b :: ·)
  | _ :: _ => none
def D.ints : List D → Option (List Int)
  | [] => some []
  | .int b :: ds => (D.ints ds).map (b :: ·)
  | _ :: _ => none
theorem bls_at {K : PySem.W.Frag} {F : Addr → Prop} {μ : List Addr} {H : Hp} : ∀ {ds : List D} {vs : List V} {bs : List Bool}, Rps K CA F μ H ds vs → D.bls ds = some bs → vs = bs.map V.bl
  | [], [], _, _, e => by cases e; rfl
  | [], _ :: _, _, r, _ => r.elim
  | _ :: _, [], _, r, _ => r.elim
  | d :: ds, v :: vs, bs, r, e => by
    cases d with
    | bl b =>
      unfold D.bls at e
      cases q : D.bls ds with
      | none => rw [q] at e; cases e
      | some cs => rw [q] at e; cases e; rw [List.map_cons, ← bls_at r.2 q, show v = V.bl b from r.1]
    | _ => cases e
theorem ints_at {K : PySem.W.Frag} {F : Addr → Prop} {μ : List Addr} {H : Hp} : ∀ {ds : List D} {vs : List V} {bs : List Int}, Rps K CA F μ H ds vs → D.ints ds = some bs → vs = bs.map V.int
  | [], [], _, _, e => by cases e; rfl
  | [], _ :: _, _, r, _ => r.elim
  | _ :: _, [], _, r, _ => r.elim
  | d :: ds, v :: vs, bs, r, e => by
    cases d with
    | int b =>
      unfold D.ints at e
      cases q : D.ints ds with
      | none => rw [q] at e; cases e
      | some cs => rw [q] at e; cases e; rw [List.map_cons, ← ints_at r.2 q, show v = V.int b from r.1]
    | _ => cases e
def anyD : D → List D → Out R := fun d bx => match d.sL bx with
  | some ds => (match D.bls ds with
    | some bs => OK (.bl (bs.any id)) bx
    | none => .stk)
  | none => .stk
theorem dc_any (hc : X.calm = true) : DCall X CA W (.builtin "any") (un1 anyD) := dc1 (cr_any hc) fun d v bx F μ σ H Q s r o => by
  unfold anyD at o
  cases q : d.sL bx with
  | none => rw [q] at o; exact o.elim
  | some ds =>
    simp only [q] at o
    cases q2 : D.bls ds with
    | none => rw [q2] at o; exact o.elim
    | some bs =>
      rw [q2] at o
      obtain ⟨a, vs, h1, h2, h3⟩ := sL_at s r q
      exact ⟨a, bs, by rw [h1], by rw [← bls_at h3 q2]; exact h2, okV o s rfl⟩
def allD : D → List D → Out R := fun d bx => match d.sL bx with
  | some ds => (match D.bls ds with
    | some bs => OK (.bl (bs.all id)) bx
    | none => .stk)
  | none => .stk
theorem dc_all (hc : X.calm = true) : DCall X CA W (.builtin "all") (un1 allD) := dc1 (cr_all hc) fun d v bx F μ σ H Q s r o => by
  unfold allD at o
  cases q : d.sL bx with
  | none => rw [q] at o; exact o.elim
  | some ds =>
    simp only [q] at o
    cases q2 : D.bls ds with
    | none => rw [q2] at o; exact o.elim
    | some bs =>
      rw [q2] at o
      obtain ⟨a, vs, h1, h2, h3⟩ := sL_at s r q
      exact ⟨a, bs, by rw [h1], by rw [← bls_at h3 q2]; exact h2, okV o s rfl⟩
def maxL : D → List D → Out R := fun d bx => match d.sL bx with
  | some ds => (match (D.ints ds).bind List.max? with
    | some m => OK (.int m) bx
    | none => .stk)
  | none => .stk
def minL : D → List D → Out R := fun d bx => match d.sL bx with
  | some ds => (match (D.ints ds).bind List.min? with
    | some m => OK (.int m) bx
    | none => .stk)
  | none => .stk
theorem dc_maxL (hc : X.calm = true) : DCall X CA W (.builtin "max") (un1 maxL) := dc1 (cr_max hc) fun d v bx F μ σ H Q s r o => by
  unfold maxL at o
  cases q : d.sL bx with
  | none => rw [q] at o; exact o.elim
  | some ds =>
    simp only [q] at o
    cases q2 : D.ints ds with
    | none => rw [q2] at o; exact o.elim
    | some bs =>
      simp only [q2, Option.bind_some] at o
      cases q3 : bs.max? with
      | none => rw [q3] at o; exact o.elim
      | some m =>
        rw [q3] at o
        obtain ⟨a, vs, h1, h2, h3⟩ := sL_at s r q
        obtain ⟨m1, m2⟩ := List.max?_eq_some_iff.mp q3
        refine ⟨a, bs, by rw [h1], by rw [← ints_at h3 q2]; exact h2, List.length_pos_of_mem m1, fun m' a1 a2 => ?_⟩
        have : m' = m := Int.le_antisymm (m2 m' a1) (a2 m m1)
        subst this
        exact okV o s rfl
theorem dc_minL (hc : X.calm = true) : DCall X CA W (.builtin "min") (un1 minL) := dc1 (cr_min hc) fun d v bx F μ σ H Q s r o => by
  unfold minL at o
  cases q : d.sL bx with
  | none => rw [q] at o; exact o.elim
  | some ds =>
    simp only [q] at o
    cases q2 : D.ints ds with
    | none => rw [q2] at o; exact o.elim
    | some bs =>
      simp only [q2, Option.bind_some] at o
      cases q3 : bs.min? with
      | none => rw [q3] at o; exact o.elim
      | some m =>
        rw [q3] at o
        obtain ⟨a, vs, h1, h2, h3⟩ := sL_at s r q
        obtain ⟨m1, m2⟩ := List.min?_eq_some_iff.mp q3
        refine ⟨a, bs, by rw [h1], by rw [← ints_at h3 q2]; exact h2, List.length_pos_of_mem m1, fun m' a1 a2 => ?_⟩
        have : m' = m := Int.le_antisymm (a2 m m1) (m2 m' a1)
        subst this
        exact okV o s rfl
def max2 : D → D → List D → Out R
  | .int i, .int j, bx => OK (.int (if j > i then j else i)) bx
  | _, _, _ => .stk
def min2 : D → D → List D → Out R
  | .int i, .int j, bx => OK (.int (if j < i then j else i)) bx
  | _, _, _ => .stk
theorem dc_max2 (hc : X.calm = true) : DCall X CA W (.builtin "max") (un2 max2) := dc2 (call_max2 hc) fun d v d' v' bx F μ σ H Q s r r' o => by
  cases d <;> cases d' <;> first | exact o.elim | skip
  rename_i i j
  exact ⟨i, j, by rw [show v = V.int i from r, show v' = V.int j from r'], okV o s rfl⟩
theorem dc_min2 (hc : X.calm = true) : DCall X CA W (.builtin "min") (un2 min2) := dc2 (call_min2 hc) fun d v d' v' bx F μ σ H Q s r r' o => by
  cases d <;> cases d' <;> first | exact o.elim | skip
  rename_i i j
  exact ⟨i, j, by rw [show v = V.int i from r, show v' = V.int j from r'], okV o s rfl⟩
def sumL : D → List D → Out R := fun d bx => match d.sL bx with
  | some ds => (match D.ints ds with
    | some bs => OK (.int bs.sum) bx
    | none => .stk)
  | none => .stk
theorem dc_sum (hc : X.calm = true) : DCall X CA W (.builtin "sum") (un1 sumL) := dc1 (cr_sum hc) fun d v bx F μ σ H Q s r o => by
  unfold sumL at o
  cases q : d.sL bx with
  | none => rw [q] at o; exact o.elim
  | some ds =>
    simp only [q] at o
    cases q2 : D.ints ds with
    | none => rw [q2] at o; exact o.elim
    | some bs =>
      rw [q2] at o
      obtain ⟨a, vs, h1, h2, h3⟩ := sL_at s r q
      exact ⟨a, bs, by rw [h1], by rw [← ints_at h3 q2]; exact h2, okV o s rfl⟩
end
end DL

set_option Elab.async false
set_option linter.all false
set_option maxRecDepth 100000
set_option maxHeartbeats 4000000
/-! DL9: what can be called: defs, classes, methods; fields. -/
namespace DL
open PySem PySem.Spec L2
/-! ### promises of any number of arguments -/
def spR (K : PySem.W.Frag) (CA : Ly) (mf : MF) : Sp := fun vs H Q E => ∃ ds bx F μ, Rps K CA F μ H ds vs ∧ Sx K CA F μ H bx ∧ OkG K CA (fun cls d _ H => E cls d H) F μ [] H (fun F' H' => RRv K CA F' μ H H') (mf ds bx) Q
theorem spM_eq {K : PySem.W.Frag} {CA : Ly} {n : Nat} {mf : MF} : spM K CA n mf = spR K CA (ar n mf) := rfl
section
variable {P : Program} {w : World} {K : PySem.W.Frag} {mg : Str → Option Value} {base : Heap} {CA : Ly} {k : Nat} {f : Addr}
/-- a def that takes as many as it has -/
theorem fn_all {fd : FuncData} {ps : List Str} {mf : MF} {n : Nat} (F : FnOk P w K mg base (L2.CX P w) k f fd ps (spM K CA n mf)) (hb : Binds K fd ps []) : FnR P w K mg base (L2.CX P w) k f (spR K CA (ar n mf)) :=
  (F.raw hb .nil).imp fun vs H Q E h => by rw [List.append_nil]; exact h
/-- .. the last ones by their defaults -/
def dfl (n : Nat) (ds0 : List D) (mf : MF) : MF := fun ds bx => ar n mf (ds ++ ds0) bx
theorem fn_dfl {fd : FuncData} {ps : List Str} {mf : MF} {n : Nat} {ds0 : List D} {vs0 : List V} {us0 : List Value} (F : FnOk P w K mg base (L2.CX P w) k f fd ps (spM K CA n mf)) (hb : Binds K fd ps us0) (hv : Vals vs0 us0)
    (hd : ∀ F μ H, Rps K CA F μ H ds0 vs0) : FnR P w K mg base (L2.CX P w) k f (spR K CA (dfl n ds0 mf)) :=
  (F.raw hb hv).imp fun vs H Q E ⟨ds, bx, F, μ, r, s, o⟩ => ⟨ds ++ ds0, bx, F, μ, r.append (hd F μ H), s, o⟩
/-- the rest as a tuple -/
def starA (n : Nat) (mf : MF) : MF := fun ds bx => if n ≤ ds.length ∧ ds.length - n ≤ sizeLine then mf (ds.take n ++ [.tup (ds.drop n)]) bx else .stk
theorem fn_starR {n : Nat} {mf : MF} (F : FnR P w K mg base (L2.CX P w) k f (fun vs H Q E => ∃ ws rest, vs = ws ++ rest ∧ ws.length = n ∧ rest.length ≤ sizeLine ∧ ∀ p, H p = none → spM K CA (n + 1) mf (ws ++ [V.ref p]) (upd H p (.tup rest)) Q E)) :
    FnR P w K mg base (L2.CX P w) k f (spR K CA (starA n mf)) := by
  refine F.imp fun vs H Q E ⟨ds, bx, F, μ, r, s, o⟩ => ?_
  unfold starA at o
  by_cases h : n ≤ ds.length ∧ ds.length - n ≤ sizeLine
  · rw [if_pos h] at o
    have hl := r.length
    refine ⟨vs.take n, vs.drop n, (List.take_append_drop n vs).symm, by rw [List.length_take]; omega, by rw [List.length_drop]; omega, fun p hp => ?_⟩
    have e2 := Ext.new (o := .tup (vs.drop n)) s hp
    refine ⟨ds.take n ++ [.tup (ds.drop n)], bx, _, μ, ((r.take n).ext s e2).append (show Rps K CA _ μ _ [.tup (ds.drop n)] [V.ref p] from ⟨⟨p, vs.drop n, rfl, .inl ⟨.inr rfl, upd_same⟩, (r.drop n).ext s e2⟩, trivial⟩), s.new hp, ?_⟩
    unfold ar
    rw [if_pos (by rw [List.length_append, List.length_take, List.length_singleton]; omega)]
    exact OkG.shift (o := mf (ds.take n ++ [.tup (ds.drop n)]) bx) e2 (fun F2 H2 r v z => RRv.of e2 z) o
  · rw [if_neg h] at o; exact o.elim
end
/-! ### calls of values -/
def CallS (X : Cx) (u : Value) (r : List V → L2.St → Hp → VK → Prop) : Prop :=
  ∀ (pins : List (Addr × Obj)) (s : Shared) (σ : L2.St) (H : Hp) (vs : List V) (us : List Value) (Q : VK), Inv X pins σ H s → Vals vs us → r vs σ H Q → wpAny (model X.prog X.w) X.A (call u us) (EP X pins σ Q) X.xe s
/-- calling the value u does mf -/
structure DF (X : Cx) (CA : Ly) (W : WX) (u : Addr) (mf : MF) : Prop where
  kp : PySem.W.keepIn X.K (.ref u) = true
  ex : ∃ r, CallS X (.ref u) r ∧ ∀ ds vs bx F μ σ H Q, Sx X.K CA F μ H bx → Rps X.K CA F μ H ds vs → OkG X.K CA W F μ σ H (fun F' H' => RRv X.K CA F' μ H H') (mf ds bx) Q → r vs σ H Q
section
variable {X : Cx} {CA : Ly} {W : WX} {k : Nat} {f C : Addr} {mf : MF}
theorem run_fnRS {sp : Sp} {E : XK} {pins : List (Addr × Obj)} {σ : L2.St} {H : Hp} {s : Shared} {Q : VK} {us : List Value} {vs : List V} (F : FnR X.prog X.w X.K X.mg X.base (L2.CX X.prog X.w) k f sp) (hr : Room k X.A) (hx : PassesAt (L2.CX X.prog X.w) X σ E)
    (I : Inv X pins σ H s) (r : Vals vs us) (h : sp vs H Q E) : codeAny (model X.prog X.w) X.A (.call (.ref f) ⟨us, []⟩) (fun r s' => match r with | .ok (.ret v) => EP X pins σ Q v s' | .ok _ => False | .error e => X.xe e s') s := by
  refine codeAny_mono (F X.A X.stack s H us vs Q E hr I.env0 r h) fun r s' hq => ?_
  cases r with
  | error e => exact hx pins H s e s' I hq
  | ok fl =>
    cases fl with
    | ret u => exact I.after hq
    | next => exact False.elim hq
    | brk => exact False.elim hq
    | cont => exact False.elim hq
theorem df_fn (tk : Takes X W) (F : FnR X.prog X.w X.K X.mg X.base (L2.CX X.prog X.w) k f (spR X.K CA mf)) (hr : Room k X.A) (hk : PySem.W.keepIn X.K (.ref f) = true) : DF X CA W f mf := by
  refine ⟨hk, fun vs σ H Q => spR X.K CA mf vs H Q (WE W σ), fun pins s σ H vs us Q I r h => wpAny_call (run_fnRS F hr (passAt tk σ) I r h), fun ds vs bx F μ σ H Q s r o => ⟨ds, bx, F, μ, r, s, o.wish⟩⟩
/-- C(..) by its __init__ -/
def mkD (c : Nat) (mf : MF) : MF := fun ds bx => match mf (.box bx.length :: ds) (bx ++ [.ins c [] []]) with
  | .ok (.val .non) b => if b.length = bx.length + 1 ∧ (b.take bx.length).all (D.cl bx.length) = true then (match b[bx.length]? with
    | some d => if d.cl bx.length = true then .ok (.new d) (b.take bx.length) else .stk
    | none => .stk) else .stk
  | .exn c ns es b => if b.length = bx.length + 1 ∧ ((b.take bx.length).all (D.cl bx.length) && D.cls bx.length es) = true then .exn c ns es (b.take bx.length) else .stk
  | _ => .stk
theorem Sx.made {K : PySem.W.Frag} {F : Addr → Prop} {μ : List Addr} {H : Hp} {bx : List D} {x dx : Addr} {c : Nat} (s : Sx K CA F μ H bx) (hx : H x = none) (hd : H dx = none) (hn : dx ≠ x) :
    Sx K CA F (μ ++ [x]) (upd (upd H dx (.own x)) x (.ins (CA c) dx [])) (bx ++ [.ins c [] []]) := by
  have s1 : Sx K CA F μ (upd H dx (.own x)) bx := s.tmp hd
  have hx1 : upd H dx (.own x) x = none := by rw [upd_ne hn.symm]; exact hx
  exact (s1.tmp hx1).push (s.notIn hx) (s.notF hx) ⟨dx, [], upd_same, rfl, trivial⟩
theorem df_mk {n : Nat} {c : Nat} (tk : Takes X W) (M : Mk X.K (CA c) f) (F : FnR X.prog X.w X.K X.mg X.base (L2.CX X.prog X.w) k f (spR X.K CA mf)) (hr : Room (k + 1) X.A) : DF X CA W (CA c) (mkD c mf) := by
  refine ⟨M.kp, fun vs σ H Q => ∀ x dx, H x = none → H dx = none → dx ≠ x → spR X.K CA mf (V.ref x :: vs) (upd (upd H dx (.own x)) x (.ins (CA c) dx [])) (fun v H2 => v = .non ∧ Q (.ref x) H2) (WE W σ), fun pins s σ H vs us Q I r h => ?_, fun ds vs bx F μ σ H Q s r o => ?_⟩
  · have hq := h (s.heap.objs.size + 1) s.heap.objs.size (I.hok.fresh (Nat.le_succ _)) (I.hok.fresh (Nat.le_refl _)) (Nat.ne_of_lt (Nat.lt_succ_self _))
    have I2 := Inv.made (C := CA c) I
    have r2 : Vals (V.ref (s.heap.objs.size + 1) :: vs) (Value.ref (s.heap.objs.size + 1) :: us) := .cons rfl r
    refine wpAny_call (make_map (f := f) I.kIn M.makes M.init (beq_iff_eq.mp M.fn) (codeAny_mono (F _ X.stack _ _ (Value.ref (s.heap.objs.size + 1) :: us) _ _ _ (hr.make (CA c) us []) (I2.env0.make (CA c) us []) r2 hq) fun r s' hq' => ?_))
    cases r with
    | error e => exact passAt tk σ pins _ _ e s' I2 hq'
    | ok fl =>
      cases fl with
      | ret u =>
        obtain ⟨v, H', I3, rv, ev, q3⟩ := I2.after hq'
        subst ev
        exact ⟨rv, ⟨V.ref (s.heap.objs.size + 1), H', I3, rfl, q3⟩⟩
      | next => exact False.elim hq'
      | brk => exact False.elim hq'
      | cont => exact False.elim hq'
  · intro x dx hx hd hn
    have s2 := s.made (c := c) hx hd hn
    let H2 := upd (upd H dx (.own x)) x (.ins (CA c) dx [])
    have kp : ∀ a o, H a = some o → H2 a = some o := fun a o e => by
      show upd (upd H dx (.own x)) x _ a = _
      rw [upd_ne (ne_of_none e hx), upd_ne (ne_of_none e hd)]; exact e
    have xm := s.notIn hx
    have e0 : ExtM F μ H F (μ ++ [x]) H2 := ⟨fun _ z => z, fun _ z => .inl z, fun a o e _ _ => kp a o e, [x], rfl, fun b hb => by
      have : b = x := by simpa using hb
      exact this ▸ Vac.of hx⟩
    refine ⟨.box bx.length :: ds, bx ++ [.ins c [] []], F, μ ++ [x], ⟨⟨x, rfl, by rw [s.len]; simp⟩, r.extM s e0⟩, s2, ?_⟩
    have cut : (μ ++ [x]).take bx.length = μ := by rw [s.len, List.take_left']; rfl
    have toE : ∀ {F' H'}, Ext F (μ ++ [x]) H2 F' H' → Ext F μ H F' H' := fun {F' H'} e => by
      have nx : ∀ a o, H a = some o → a ∉ μ → a ∉ μ ++ [x] := fun a o ha hm y => by
        rcases List.mem_append.mp y with y | y
        · exact hm y
        · have : a = x := by simpa using y
          rw [this, hx] at ha; cases ha
      refine ⟨e.up, fun a fa => ?_, fun a o ha hm z => e.keep a o (kp a o ha) (nx a o ha hm) z⟩
      · rcases e.fr a fa with z | z
        · exact .inl z
        · exact .inr ⟨fun o q n => z.1 o (kp a o q) n, fun y => z.2 (List.mem_append_left _ y)⟩
    unfold mkD at o
    cases q : mf (.box bx.length :: ds) (bx ++ [.ins c [] []]) with
    | stk => rw [q] at o; exact o.elim
    | exn c' ns es b =>
      rw [q] at o
      obtain ⟨⟨hl, ha⟩, o⟩ := okIf (show OkG X.K CA W F μ σ H (fun F' H' => RRv X.K CA F' μ H H') (if b.length = bx.length + 1 ∧ ((b.take bx.length).all (D.cl bx.length) && D.cls bx.length es) = true then .exn c' ns es (b.take bx.length) else .stk) Q from o)
      obtain ⟨a1, a2⟩ := Bool.and_eq_true_iff.mp ha
      intro cls dd F' H' e' s' xx
      have s3 := s'.cut a1
      rw [cut] at s3
      obtain ⟨x1, a, vs', x2, x3, x4, x5⟩ := xx
      have x6 := x5.cut a2
      rw [cut] at x6
      exact o cls dd F' H' (toE e') s3 ⟨x1, a, vs', x2, x3, x4, x6⟩
    | ok r' b =>
      cases r' with
      | new d => rw [q] at o; exact o.elim
      | val d =>
        cases d with
        | non =>
          rw [q] at o
          obtain ⟨⟨hl, ha⟩, o⟩ := okIf (show OkG X.K CA W F μ σ H (fun F' H' => RRv X.K CA F' μ H H') (if b.length = bx.length + 1 ∧ (b.take bx.length).all (D.cl bx.length) = true then (match b[bx.length]? with
            | some d => if d.cl bx.length = true then .ok (.new d) (b.take bx.length) else .stk
            | none => .stk) else .stk) Q from o)
          intro v F' H' e' s' rv
          refine ⟨rv, ?_⟩
          cases hb : b[bx.length]? with
          | none => rw [hb] at o; exact o.elim
          | some d =>
            rw [hb] at o
            obtain ⟨hc, o⟩ := okIf (show OkG X.K CA W F μ σ H (fun F' H' => RRv X.K CA F' μ H H') (if d.cl bx.length = true then .ok (.new d) (b.take bx.length) else .stk) Q from o)
            have s3 := s'.cut ha
            rw [cut] at s3
            have at3 := (s'.at_ bx.length d x hb (by rw [s.len]; simp)).cut hc
            rw [cut] at at3
            exact o (.ref x) F' H' (toE e') s3 ⟨x, rfl, .of hx, xm, s'.dj x (by simp), at3⟩
        | _ => rw [q] at o; exact o.elim
end
/-! ### the calls' nodes -/
section
variable {X : Cx} {CA : Ly} {W : WX} {e o : Expr} {es : List Expr} {pos p apos : Pos} {x : Str} {u : Addr} {mf : MF} {m : MA}
def mF (mf : MF) (a : MA) : ME := fun ρ bx => (a ρ bx).bind fun ds b => mf ds b
theorem se_callG (hf : DF X CA W u mf) (hg : Gl X x) (hm : X.mg x = some (.ref u)) (ha : SA X CA W (e :: es) m) (hdb : (x == ("__debug__" : Str)) = false := by decide)
    (he : starEach (e :: es) X.env = (false, eval e X.env) :: starEach es X.env := by rfl) (hpl : (backTo pos (starEach es X.env)).any (·.1) = false := by rfl) : SE X CA W (.Call (.Name x p) (e :: es) [] pos) (mF mf m) := by
  obtain ⟨kp, r, r1, r2⟩ := hf
  obtain ⟨ta, a1, a2⟩ := ha.ex
  refine ⟨fun σ H Q => ta σ H fun vs H1 => r vs σ H1 Q, ⟨fun pins s σ H Q I h => ?_⟩, fun ρ bx F μ σ H Q s n o => a2 ρ bx F μ σ H _ s n ?_⟩
  · refine wpAny_Call_Name_kw (ld_glob I hg hm ?_ hdb)
    exact PySem.W.callWith_K (h₀ := X.base) I.ok.mod.kin kp (thn (a1.run pos pins s σ H _ I h) fun us s1 ⟨vs, H1, I1, rv, q⟩ => ⟨I1.kIn, r1 pins s1 σ H1 vs us Q I1 rv q⟩) he hpl
  · refine OkG.seq (rel2 := fun F' H' => RRv X.K CA F' μ H H') (Q := Q) o fun ds b1 vs F1 H1 e1 s1 rs o1 => ?_
    exact r2 ds vs b1 F1 μ σ H1 Q s1 rs (OkG.shiftR e1 o1)
theorem se_callG0 (hf : DF X CA W u mf) (hg : Gl X x) (hm : X.mg x = some (.ref u)) (hdb : (x == ("__debug__" : Str)) = false := by decide) : SE X CA W (.Call (.Name x p) [] [] pos) (mF mf aNil) := by
  obtain ⟨kp, r, r1, r2⟩ := hf
  refine ⟨fun σ H Q => r [] σ H Q, ⟨fun pins s σ H Q I h => ?_⟩, fun ρ bx F μ σ H Q s n o => r2 [] [] bx F μ σ H Q s trivial o⟩
  refine wpAny_Call_Name_kw (ld_glob I hg hm ?_ hdb)
  exact PySem.W.callWith_K0 I.kIn kp (r1 pins s σ H [] [] Q I .nil h)
/-- a local name that holds it -/
def mFL (i : Nat) (u : Addr) (mf : MF) (a : MA) : ME := fun ρ bx => match ρ[i]? with
  | some (some (.adr v)) => if v = u then mF mf a ρ bx else .stk
  | _ => .stk
theorem se_callL {i : Nat} (hf : DF X CA W u mf) (hN : X.N[i]? = some x) (hv : Vis X.env.scope x) (ha : SA X CA W (e :: es) m) (hd : (x == ("__debug__" : Str)) = false := by decide) (hcd : (x == ("__classdict__" : Str)) = false := by decide)
    (he : starEach (e :: es) X.env = (false, eval e X.env) :: starEach es X.env := by rfl) (hpl : (backTo pos (starEach es X.env)).any (·.1) = false := by rfl) : SE X CA W (.Call (.Name x p) (e :: es) [] pos) (mFL i u mf m) := by
  obtain ⟨kp, r, r1, r2⟩ := hf
  obtain ⟨ta, a1, a2⟩ := ha.ex
  refine ⟨fun σ H Q => σ[i]? = some (some (.ref u)) ∧ ta σ H fun vs H1 => r vs σ H1 Q, ⟨fun pins s σ H Q I h => ?_⟩, fun ρ bx F μ σ H Q s n o => ?_⟩
  · obtain ⟨hs, h⟩ := h
    refine wpAny_Call_Name_kw (thn ((pe_var (pos := p) (i := i) hN hv hd hcd).run pins s σ H (fun v H1 => v = .ref u ∧ H1 = H) I ⟨.ref u, hs, rfl, rfl⟩) fun w s1 ⟨v, H1, I1, q1, ev, eH⟩ => ?_)
    subst ev
    rw [eH] at I1
    cases q1
    exact PySem.W.callWith_K (h₀ := X.base) I.ok.mod.kin kp (thn (a1.run pos pins s1 σ H _ I1 h) fun us s1 ⟨vs, H1, I1, rv, q⟩ => ⟨I1.kIn, r1 pins s1 σ H1 vs us Q I1 rv q⟩) he hpl
  · unfold mFL at o
    cases q : ρ[i]? with
    | none => rw [q] at o; exact o.elim
    | some d0 => cases d0 with
      | none => rw [q] at o; exact o.elim
      | some d => cases d with
        | adr v =>
          rw [q] at o
          obtain ⟨ev, oq⟩ := okIf (show OkG X.K CA W F μ σ H (fun F' H' => RRv X.K CA F' μ H H') (if v = u then mF mf m ρ bx else .stk) Q from o)
          subst ev
          obtain ⟨w, w1, w2⟩ := n.at_ i _ q
          refine ⟨by rw [w1, show w = V.ref v from w2], a2 ρ bx F μ σ H _ s n ?_⟩
          refine OkG.seq (rel2 := fun F' H' => RRv X.K CA F' μ H H') (Q := Q) oq fun ds b1 vs F1 H1 e1 s1 rs o1 => ?_
          exact r2 ds vs b1 F1 μ σ H1 Q s1 rs (OkG.shiftR e1 o1)
        | _ => rw [q] at o; exact o.elim
theorem se_callL0 {i : Nat} (hf : DF X CA W u mf) (hN : X.N[i]? = some x) (hv : Vis X.env.scope x) (hd : (x == ("__debug__" : Str)) = false := by decide) (hcd : (x == ("__classdict__" : Str)) = false := by decide) : SE X CA W (.Call (.Name x p) [] [] pos) (mFL i u mf aNil) := by
  obtain ⟨kp, r, r1, r2⟩ := hf
  refine ⟨fun σ H Q => σ[i]? = some (some (.ref u)) ∧ r [] σ H Q, ⟨fun pins s σ H Q I h => ?_⟩, fun ρ bx F μ σ H Q s n o => ?_⟩
  · obtain ⟨hs, h⟩ := h
    refine wpAny_Call_Name_kw (thn ((pe_var (pos := p) (i := i) hN hv hd hcd).run pins s σ H (fun v H1 => v = .ref u ∧ H1 = H) I ⟨.ref u, hs, rfl, rfl⟩) fun w s1 ⟨v, H1, I1, q1, ev, eH⟩ => ?_)
    subst ev
    rw [eH] at I1
    cases q1
    exact PySem.W.callWith_K0 I1.kIn kp (r1 pins s1 σ H [] [] Q I1 .nil h)
  · unfold mFL at o
    cases q : ρ[i]? with
    | none => rw [q] at o; exact o.elim
    | some d0 => cases d0 with
      | none => rw [q] at o; exact o.elim
      | some d => cases d with
        | adr v =>
          rw [q] at o
          obtain ⟨ev, oq⟩ := okIf (show OkG X.K CA W F μ σ H (fun F' H' => RRv X.K CA F' μ H H') (if v = u then mF mf aNil ρ bx else .stk) Q from o)
          subst ev
          obtain ⟨w, w1, w2⟩ := n.at_ i _ q
          exact ⟨by rw [w1, show w = V.ref v from w2], r2 [] [] bx F μ σ H Q s trivial oq⟩
        | _ => rw [q] at o; exact o.elim
/-! ### classmethods: C.m(..) -/
def mCM (u : Addr) (mf : MF) (o : ME) (a : MA) : ME := fun ρ bx => (o ρ bx).bind fun r b => match r.d with
  | .adr v => if v = u then (a ρ b).bind fun ds b1 => mf (.adr v :: ds) b1 else .stk
  | _ => .stk
section
variable {k : Nat} {C g q : Addr} {mc : Value} {name : Str} {mo : ME} {pl : Sem Bool}
theorem run_cmS {sp : Sp} {E : XK} {pins : List (Addr × Obj)} {σ : L2.St} {H : Hp} {s : Shared} {Q : VK} {us : List Value} {vs : List V} (F : FnR X.prog X.w X.K X.mg X.base (L2.CX X.prog X.w) k g sp) (hr : Room k X.A) (hx : PassesAt (L2.CX X.prog X.w) X σ E) (I : Inv X ((q, PySem.W.methodObj (.ref g) (.ref C)) :: pins) σ H s)
    (r : Vals vs us) (h : sp (.ref C :: vs) H Q E) : wpAny (model X.prog X.w) X.A (call (.ref q) us) (EP X pins σ Q) X.xe s := by
  have z : wpAny (model X.prog X.w) X.A (call (.ref q) us) (EP X ((q, PySem.W.methodObj (.ref g) (.ref C)) :: pins) σ Q) X.xe s :=
    wpAny_call (PySem.W.method_call (ClX.pin_at I) (run_fnRS (us := .ref C :: us) (vs := .ref C :: vs) F hr hx I (.cons rfl r) h))
  exact thn z fun _ _ y => ClX.unpinE y
theorem se_cm {P : Addr} (tk : Takes X W) (r : ClX.CRead X.K C mc) (c : ClX.CMet X.K C mc name P g) (F : FnR X.prog X.w X.K X.mg X.base (L2.CX X.prog X.w) k g (spR X.K CA mf)) (hr : Room k X.A) (ho : SE X CA W o mo) (ha : SA X CA W (e :: es) m)
    (hst : starEach (e :: es) X.env = (false, eval e X.env) :: starEach es X.env := by rfl) (hpl : (backTo pos (starEach es X.env)).any (·.1) = false := by rfl)
    (ht : eval (.Call (.Attribute o name apos) (e :: es) [] pos) X.env = (do
      let ov ← eval o X.env
      standAt apos.atName
      let (f, first) ← holding [ov] (getMethod ov name pl)
      callWith pos f first (backTo pos (starEach (e :: es) X.env)) (backToKw pos (keywordEach [] X.env))) := by rfl) :
    SE X CA W (.Call (.Attribute o name apos) (e :: es) [] pos) (mCM C mf mo m) := by
  obtain ⟨to, o1, o2⟩ := ho.dat
  obtain ⟨ta, a1, a2⟩ := ha.ex
  refine ⟨fun σ H Q => to σ H fun x H1 => x = .ref C ∧ ta σ H1 fun vs H2 => spR X.K CA mf (.ref C :: vs) H2 Q (WE W σ), ⟨fun pins s σ H Q I h => ?_⟩, fun ρ bx F μ σ H Q s n o => o2 ρ bx F μ σ H _ s n ?_⟩
  · refine PySem.W.methodCall_KW (pl := pl) (thn (o1.run pins s σ H _ I h) fun u s1 ⟨x, H1, I1, rx, ex, q⟩ => ?_) ht
    subst ex
    obtain rfl : u = Value.ref C := rx
    refine ClX.getmethcm_ok I1 r c fun s2 I2 => ?_
    refine ClX.callwith_cm I2 (ClX.base_none I1 (Nat.le_refl _)) c.fi (thn (a1.run pos _ s2 σ H1 _ I2 q) fun us s3 ⟨vs, H2, I3, rv, q2⟩ => ⟨⟨ClX.pin_at I3, I3.kIn⟩, ?_⟩) hst hpl
    exact run_cmS F hr (passAt tk σ) I3 rv q2
  · have o' : OkG X.K CA W F μ σ H (fun F' H' => RRv X.K CA F' μ H H') (((mo ρ bx).map R.d).bind fun d b => match d with
      | .adr v => if v = C then (m ρ b).bind fun ds b1 => mf (.adr v :: ds) b1 else .stk
      | _ => .stk) Q := by rw [map_bind]; exact o
    refine o'.seq fun d b v F1 H1 e1 s1 rv oo => ?_
    cases d with
    | adr v' =>
      obtain ⟨ev, oq⟩ := okIf (show OkG X.K CA W F μ σ H (fun F' H' => RRv X.K CA F' μ H H') (if v' = C then (m ρ b).bind fun ds b1 => mf (.adr v' :: ds) b1 else .stk) Q from oo)
      subst ev
      refine ⟨rv, a2 ρ b F1 μ σ H1 _ s1 (n.ext s e1) ?_⟩
      refine OkG.seq (rel2 := fun F' H' => RRv X.K CA F' μ H1 H') (Q := Q) (OkG.shiftR e1 oq) fun ds b1 ws F2 H2 e2 s2 rs o3 => ?_
      exact ⟨.adr v' :: ds, b1, F2, μ, ⟨rfl, rs⟩, s2, (OkG.shiftR e2 o3).wish⟩
    | _ => exact oo.elim
theorem se_cm0 {P : Addr} (tk : Takes X W) (r : ClX.CRead X.K C mc) (c : ClX.CMet X.K C mc name P g) (F : FnR X.prog X.w X.K X.mg X.base (L2.CX X.prog X.w) k g (spR X.K CA mf)) (hr : Room k X.A) (ho : SE X CA W o mo)
    (ht : eval (.Call (.Attribute o name apos) [] [] pos) X.env = (do
      let ov ← eval o X.env
      standAt apos.atName
      let (f, first) ← holding [ov] (getMethod ov name pl)
      callWith pos f first (backTo pos (starEach [] X.env)) (backToKw pos (keywordEach [] X.env))) := by rfl) :
    SE X CA W (.Call (.Attribute o name apos) [] [] pos) (mCM C mf mo aNil) := by
  obtain ⟨to, o1, o2⟩ := ho.dat
  refine ⟨fun σ H Q => to σ H fun x H1 => x = .ref C ∧ spR X.K CA mf [.ref C] H1 Q (WE W σ), ⟨fun pins s σ H Q I h => ?_⟩, fun ρ bx F μ σ H Q s n o => o2 ρ bx F μ σ H _ s n ?_⟩
  · refine PySem.W.methodCall_KW (pl := pl) (thn (o1.run pins s σ H _ I h) fun u s1 ⟨x, H1, I1, rx, ex, q⟩ => ?_) ht
    subst ex
    obtain rfl : u = Value.ref C := rx
    refine ClX.getmethcm_ok I1 r c fun s2 I2 => ?_
    exact PySem.W.callWith_M0 (first := []) ⟨ClX.pin_at I2, I2.kIn⟩ c.fi (run_cmS (us := []) (vs := []) F hr (passAt tk σ) I2 .nil q)
  · have o' : OkG X.K CA W F μ σ H (fun F' H' => RRv X.K CA F' μ H H') (((mo ρ bx).map R.d).bind fun d b => match d with
      | .adr v => if v = C then (aNil ρ b).bind fun ds b1 => mf (.adr v :: ds) b1 else .stk
      | _ => .stk) Q := by rw [map_bind]; exact o
    refine o'.seq fun d b v F1 H1 e1 s1 rv oo => ?_
    cases d with
    | adr v' =>
      obtain ⟨ev, oq⟩ := okIf (show OkG X.K CA W F μ σ H (fun F' H' => RRv X.K CA F' μ H H') (if v' = C then (aNil ρ b).bind fun ds b1 => mf (.adr v' :: ds) b1 else .stk) Q from oo)
      subst ev
      exact ⟨rv, [.adr v'], b, F1, μ, ⟨rfl, trivial⟩, s1, (OkG.shiftR e1 oq).wish⟩
    | _ => exact oo.elim
end
/-! ### instances -/
def D.obj (bx : List D) : D → Option (Nat × List Str × List D)
  | .ins c ns ds => some (c, ns, ds)
  | .box n => match bx[n]? with
    | some (.ins c ns ds) => some (c, ns, ds)
    | _ => none
  | _ => none
theorem obj_at {K : PySem.W.Frag} {F : Addr → Prop} {μ : List Addr} {H : Hp} {bx : List D} {d : D} {v : V} {c : Nat} {ns : List Str} {ds : List D} (s : Sx K CA F μ H bx) (r : Rp K CA F μ H d v) (e : d.obj bx = some (c, ns, ds)) :
    ∃ a dx vs, v = .ref a ∧ H a = some (.ins (CA c) dx (ns.zip vs)) ∧ ns.length = ds.length ∧ Rps K CA F μ H ds vs := by
  cases d with
  | ins c' ns' ds' =>
    cases e
    obtain ⟨a, dx, vs, q1, _, q2, q3, q4⟩ := r
    exact ⟨a, dx, vs, q1, q2, q3, q4⟩
  | box n =>
    obtain ⟨a, q1, q2⟩ := r
    unfold D.obj at e
    cases hb : bx[n]? with
    | none => simp only [hb] at e; cases e
    | some d' =>
      cases d' with
      | ins c' ns' ds' =>
        simp only [hb] at e
        cases e
        obtain ⟨dx, vs, w1, w2, w3⟩ := s.at_ n _ a hb q2
        exact ⟨a, dx, vs, q1, w1, w2, w3⟩
      | _ => simp only [hb] at e; cases e
  | _ => cases e
def getF (f : Str) : List Str → List D → Option D
  | n :: ns, d :: ds => if n = f then some d else getF f ns ds
  | _, _ => none
def hasF (f : Str) (ns : List Str) : Bool := ns.any (· == f)
theorem getF_at {K : PySem.W.Frag} {F : Addr → Prop} {μ : List Addr} {H : Hp} {f : Str} : ∀ {ns : List Str} {ds : List D} {vs : List V} {d : D}, Rps K CA F μ H ds vs → getF f ns ds = some d → ∃ v, (ns.zip vs).lookup f = some v ∧ Rp K CA F μ H d v
  | [], _, _, _, _, e => by unfold getF at e; cases e
  | _ :: _, [], _, _, _, e => by unfold getF at e; cases e
  | _ :: _, _ :: _, [], _, r, _ => r.elim
  | n :: ns, d0 :: ds, v0 :: vs, d, r, e => by
    unfold getF at e
    by_cases h : n = f
    · rw [if_pos h] at e
      cases e
      refine ⟨v0, ?_, r.1⟩
      rw [List.zip_cons_cons, List.lookup_cons, h]
      simp
    · rw [if_neg h] at e
      obtain ⟨v, h1, h2⟩ := getF_at r.2 e
      refine ⟨v, ?_, h2⟩
      rw [List.zip_cons_cons, List.lookup_cons]
      have : (f == n) = false := beq_false_of_ne fun z => h z.symm
      rw [this]
      exact h1
theorem hasF_no {f : Str} : ∀ {ns : List Str} {vs : List V}, hasF f ns = false → (ns.zip vs).lookup f = none
  | [], _, _ => by simp
  | _ :: _, [], _ => by simp
  | n :: ns, v :: vs, h => by
    unfold hasF at h
    rw [List.any_cons, Bool.or_eq_false_iff] at h
    rw [List.zip_cons_cons, List.lookup_cons]
    have : (f == n) = false := beq_false_of_ne fun z => by rw [z] at h; simp at h
    rw [this]
    exact hasF_no (ns := ns) h.2
/-- o.f -/
def fldD (f : Str) (cs : List Nat) (d : D) (bx : List D) : Out R := match d.obj bx with
  | some (c, ns, ds) => if c ∈ cs then (match getF f ns ds with
    | some v => OK v bx
    | none => .stk) else .stk
  | none => .stk
theorem se_fld {f : Str} {cs : List Nat} {mo : ME} (ho : SE X CA W o mo) (hc : ∀ c ∈ cs, Cls X.K (CA c) ∧ NoAttr X.K (CA c) f) (hb : attributeBase o f X.env (eval o X.env) = eval o X.env := by rfl) : SE X CA W (.Attribute o f pos) (mUn (fldD f cs) mo) := by
  obtain ⟨to, o1, o2⟩ := ho.dat
  refine ⟨_, pe_fld o1 hb, fun ρ bx F μ σ H Q s n o => ?_⟩
  refine un_ok (g := fldD f cs) (r := fun x H1 Q => ∃ a C dx fs v, x = .ref a ∧ H1 a = some (.ins C dx fs) ∧ Cls X.K C ∧ NoAttr X.K C f ∧ fs.lookup f = some v ∧ Q v H1) o2 (fun x vx bx F μ σ H Q s rx o => ?_) ρ bx F μ σ H Q s n o
  unfold fldD at o
  cases q : x.obj bx with
  | none => rw [q] at o; exact o.elim
  | some t =>
    obtain ⟨c, ns, ds⟩ := t
    rw [q] at o
    obtain ⟨hcs, o⟩ := okIf (show OkG X.K CA W F μ σ H (fun F' H' => RRv X.K CA F' μ H H') (if c ∈ cs then (match getF f ns ds with | some v => OK v bx | none => .stk) else .stk) Q from o)
    cases q2 : getF f ns ds with
    | none => rw [q2] at o; exact o.elim
    | some d =>
      rw [q2] at o
      obtain ⟨a, dx, vs, h1, h2, h3, h4⟩ := obj_at s rx q
      obtain ⟨v, l1, l2⟩ := getF_at h4 q2
      exact ⟨a, CA c, dx, ns.zip vs, v, h1, h2, (hc c hcs).1, (hc c hcs).2, l1, okV o s l2⟩
def putFD (f : Str) (v : D) : List Str → List D → List Str × List D
  | n :: ns, d :: ds => if n = f then (n :: ns, v :: ds) else let r := putFD f v ns ds; (n :: r.1, d :: r.2)
  | _, _ => ([f], [v])
theorem putFD_at {K : PySem.W.Frag} {F : Addr → Prop} {μ : List Addr} {H : Hp} {f : Str} {d : D} {v : V} (rv : Rp K CA F μ H d v) : ∀ {ns : List Str} {ds : List D} {vs : List V}, ns.length = ds.length → Rps K CA F μ H ds vs →
    ∃ vs', putF f v (ns.zip vs) = (putFD f d ns ds).1.zip vs' ∧ (putFD f d ns ds).1.length = (putFD f d ns ds).2.length ∧ Rps K CA F μ H (putFD f d ns ds).2 vs'
  | [], [], [], _, _ => ⟨[v], rfl, rfl, rv, trivial⟩
  | [], _ :: _, _, h, _ => by cases h
  | _ :: _, [], _, h, _ => by cases h
  | [], [], _ :: _, _, r => r.elim
  | _ :: _, _ :: _, [], _, r => r.elim
  | n :: ns, d0 :: ds, v0 :: vs, h, r => by
    unfold putFD
    by_cases e : n = f
    · rw [if_pos e]
      refine ⟨v :: vs, ?_, by simpa using h, rv, r.2⟩
      rw [List.zip_cons_cons, List.zip_cons_cons]
      unfold putF
      rw [if_pos e]
    · rw [if_neg e]
      obtain ⟨vs', h1, h2, h3⟩ := putFD_at rv (ns := ns) (by simpa using h) r.2
      refine ⟨v0 :: vs', ?_, by simpa using h2, r.1, h3⟩
      rw [List.zip_cons_cons]
      unfold putF
      rw [if_neg e, h1]
      rfl
/-- a box's instance becomes another one -/
theorem okBI {F : Addr → Prop} {μ : List Addr} {H : Hp} {bx ds : List D} {ns : List Str} {vs : List V} {n c : Nat} {p dx : Addr} (s : Sx X.K CA F μ H bx) (hp : μ[n]? = some p) (hl : ns.length = ds.length) (r : Rps X.K CA F μ H ds vs) :
    Ext F μ H F (upd H p (.ins (CA c) dx (ns.zip vs))) ∧ Sx X.K CA F μ (upd H p (.ins (CA c) dx (ns.zip vs))) (bx.set n (.ins c ns ds)) := by
  have pm : p ∈ μ := List.mem_of_getElem? hp
  have hF := s.dj p pm
  have st : Stay F H (upd H p (.ins (CA c) dx (ns.zip vs))) := fun a u fa e => by rw [upd_ne (fun (z : a = p) => hF (z ▸ fa))]; exact e
  refine ⟨.all (fun _ z => z) (fun _ z => .inl z) fun a u e hm => by rw [upd_ne (fun (z : a = p) => hm (z ▸ pm))]; exact e, ⟨by rw [List.length_set]; exact s.len, fun m d a h1 h2 => ?_, s.nd, s.dj, fun a fa => ?_, fun a u fa e => ?_, Tabs.keep s.tb fun b u e z => ?_⟩⟩
  · by_cases e : n = m
    · subst e
      rw [hp] at h2; cases h2
      have hn : n < bx.length := by
        have := (List.getElem?_eq_some_iff.mp h1).1
        rwa [List.length_set] at this
      rw [List.getElem?_set_self hn] at h1
      cases h1
      exact ⟨dx, vs, upd_same, hl, r.mono (fun _ z => z) (fun _ _ z => z) st⟩
    · rw [List.getElem?_set_ne e] at h1
      have ne : a ≠ p := fun z => by
        subst z
        obtain ⟨i1, e1⟩ := List.getElem?_eq_some_iff.mp hp
        obtain ⟨i2, e2⟩ := List.getElem?_eq_some_iff.mp h2
        exact e ((List.getElem_inj s.nd).mp (e1.trans e2.symm))
      exact At.mono (h := s.at_ m d a h1 h2) (hF := fun _ z => z) (hm := fun _ _ z => z) (hs := st) (ha := fun u q => by rw [upd_ne ne]; exact q)
  · obtain ⟨u, q⟩ := s.tr a fa
    exact ⟨u, by rw [upd_ne (fun (z : a = p) => hF (z ▸ fa))]; exact q⟩
  · rw [upd_ne (fun (z : a = p) => hF (z ▸ fa))] at e
    exact s.ft a u fa e
  · rw [upd_ne (fun (q : b = p) => ?_)]
    · exact e
    · obtain ⟨n', hn', e2⟩ := List.mem_iff_getElem.mp pm
      have at_ := s.at_ n' _ p (List.getElem?_eq_getElem (s.len ▸ hn')) (by rw [List.getElem?_eq_getElem hn', e2])
      exact at_.plain u (q ▸ e) z
/-- o.f = v, o a box -/
def setF (f : Str) (cs : List Nat) (o v : D) (bx : List D) : Option (List D) := match o with
  | .box n => (match bx[n]? with
    | some (.ins c ns ds) => if c ∈ cs ∧ ns.length < 1000 then some (bx.set n (.ins c (putFD f v ns ds).1 (putFD f v ns ds).2)) else none
    | _ => none)
  | _ => none
def mSetF (f : Str) (cs : List Nat) (m mo : ME) : MS := fun ρ bx => liftE (m ρ bx) ρ fun v b => liftE (mo ρ b) ρ fun o b1 => match setF f cs o.d v.d b1 with
  | some b2 => .nx ρ b2
  | none => .stk
theorem ss_setF {f : Str} {cs : List Nat} {m mo : ME} {pos' : Pos} (hv : SE X CA W e m) (ho : SE X CA W o mo) (hc : ∀ c ∈ cs, Cls X.K (CA c) ∧ NoAttr X.K (CA c) f) (hs : swapsWith e (some (.Attribute o f pos')) pos.line X.env = pure false := by rfl) :
    SS X CA W (.Assign [.Attribute o f pos'] e pos) (mSetF f cs m mo) := by
  obtain ⟨t, t1, t2⟩ := hv.dat
  obtain ⟨u, u1, u2⟩ := ho.dat
  refine ⟨_, ps_fld u1 t1 hs, fun ρ bx F μ σ H D s n o => t2 ρ bx F μ σ H _ s n ?_⟩
  have o' : OkS X.K CA W F μ H D (liftE ((m ρ bx).map R.d) ρ fun v b => liftE ((mo ρ b).map R.d) ρ fun o b1 => match setF f cs o v b1 with
    | some b2 => .nx ρ b2
    | none => .stk) := by
    rw [liftE_map]
    have e1 : (fun (r : R) b => liftE ((mo ρ b).map R.d) ρ fun o b1 => match setF f cs o r.d b1 with
      | some b2 => OutS.nx ρ b2
      | none => .stk) = fun r b => liftE (mo ρ b) ρ fun o b1 => match setF f cs o.d r.d b1 with
      | some b2 => OutS.nx ρ b2
      | none => .stk := by
      funext r b
      rw [liftE_map]
    rw [e1]
    exact o
  refine OkS.seqE s n o' fun v b vv F1 H1 e1 s1 rv o1 => ?_
  refine u2 ρ b F1 μ σ H1 _ s1 (n.ext s e1) (OkS.seqE s1 (n.ext s e1) (OkS.shiftE e1 s1 o1) fun od b1 ov F2 H2 e2 s2 ro o2 => ?_)
  have o4 := OkS.shiftE e2 s2 o2
  have rv3 := rv.ext s1 e2
  have n3 := (n.ext s e1).ext s1 e2
  cases q : setF f cs od v b1 with
  | none => rw [q] at o4; exact o4.elim
  | some b3 =>
    rw [q] at o4
    unfold setF at q
    cases od with
    | box k =>
      simp only at q
      cases hb : b1[k]? with
      | none => simp only [hb] at q; cases q
      | some d' => cases d' with
        | ins c ns ds =>
          simp only [hb] at q
          by_cases hcs : c ∈ cs ∧ ns.length < 1000
          · rw [if_pos hcs] at q
            cases q
            obtain ⟨p, q1, q2⟩ := ro
            obtain ⟨dx, vs, w1, w2, w3⟩ := s2.at_ k _ p hb q2
            obtain ⟨vs', h1, h2, h3⟩ := putFD_at rv3 w2 w3
            have up := okBI (c := c) (dx := dx) s2 q2 h2 h3
            refine ⟨p, CA c, dx, ns.zip vs, q1, w1, (hc c hcs.1).1, (hc c hcs.1).2, ?_, ?_⟩
            · rw [List.length_zip]; exact Nat.lt_of_le_of_lt (Nat.min_le_left _ _) hcs.2
            · rw [h1]
              exact o4 σ F2 μ _ up.1.m up.2 (n3.ext s2 up.1)
          · rw [if_neg hcs] at q; cases q
        | _ => simp only [hb] at q; cases q
    | _ => cases q
/-! ### methods of own classes -/
/-- o.m(..): o of the class c -/
def mMt (c : Nat) (name : Str) (mf : MF) (o : ME) (a : MA) : ME := fun ρ bx => (o ρ bx).bind fun r b => match r.d.obj b with
  | some (c', ns, _) => if c' = c ∧ hasF name ns = false then (a ρ b).bind fun ds b1 => mf (r.d :: ds) b1 else .stk
  | none => .stk
section
variable {k c : Nat} {g : Addr} {name : Str} {mo : ME} {pl : Sem Bool}
theorem se_mt (tk : Takes X W) (cl : Cls X.K (CA c)) (hm : Meth X.K (CA c) name g) (F : FnR X.prog X.w X.K X.mg X.base (L2.CX X.prog X.w) k g (spR X.K CA mf)) (hr : Room k X.A) (ho : SE X CA W o mo) (ha : SA X CA W (e :: es) m)
    (hst : starEach (e :: es) X.env = (false, eval e X.env) :: starEach es X.env := by rfl) (hpl : (backTo pos (starEach es X.env)).any (·.1) = false := by rfl)
    (ht : eval (.Call (.Attribute o name apos) (e :: es) [] pos) X.env = (do
      let ov ← eval o X.env
      standAt apos.atName
      let (f, first) ← holding [ov] (getMethod ov name pl)
      callWith pos f first (backTo pos (starEach (e :: es) X.env)) (backToKw pos (keywordEach [] X.env))) := by rfl) :
    SE X CA W (.Call (.Attribute o name apos) (e :: es) [] pos) (mMt c name mf mo m) := by
  obtain ⟨to, o1, o2⟩ := ho.dat
  obtain ⟨ta, a1, a2⟩ := ha.ex
  refine ⟨fun σ H Q => to σ H fun x H1 => ∃ a dx fs, x = .ref a ∧ H1 a = some (.ins (CA c) dx fs) ∧ fs.lookup name = none ∧ ta σ H1 fun vs H2 => spR X.K CA mf (x :: vs) H2 Q (WE W σ), ⟨fun pins s σ H Q I h => ?_⟩, fun ρ bx F μ σ H Q s n o => o2 ρ bx F μ σ H _ s n ?_⟩
  · refine PySem.W.methodCall_KW (pl := pl) (thn (o1.run pins s σ H _ I h) fun u s1 ⟨x, H1, I1, rx, a, dx, fs, ex, ea, l, q⟩ => ?_) ht
    subst ex
    obtain rfl : u = Value.ref a := rx
    refine getmeth_ok I1 ea cl hm l ?_
    refine PySem.W.callWith_K (first := [.ref a]) (h₀ := X.base) I.ok.mod.kin hm.kp (thn (a1.run pos pins s1 σ H1 _ I1 q) fun us s2 ⟨vs, H2, I2, r, q2⟩ => ⟨I2.kIn, ?_⟩) hst hpl
    exact wpAny_call (run_fnRS (us := .ref a :: us) (vs := .ref a :: vs) F hr (passAt tk σ) I2 (.cons rfl r) q2)
  · have o' : OkG X.K CA W F μ σ H (fun F' H' => RRv X.K CA F' μ H H') (((mo ρ bx).map R.d).bind fun d b => match d.obj b with
      | some (c', ns, _) => if c' = c ∧ hasF name ns = false then (m ρ b).bind fun ds b1 => mf (d :: ds) b1 else .stk
      | none => .stk) Q := by rw [map_bind]; exact o
    refine o'.seq fun d b v F1 H1 e1 s1 rv oo => ?_
    cases q : d.obj b with
    | none => rw [q] at oo; exact oo.elim
    | some t =>
      obtain ⟨c', ns, ds0⟩ := t
      rw [q] at oo
      obtain ⟨⟨ec, hf⟩, oq⟩ := okIf (show OkG X.K CA W F μ σ H (fun F' H' => RRv X.K CA F' μ H H') (if c' = c ∧ hasF name ns = false then (m ρ b).bind fun ds b1 => mf (d :: ds) b1 else .stk) Q from oo)
      subst ec
      obtain ⟨a, dx, vs, h1, h2, h3, h4⟩ := obj_at s1 rv q
      refine ⟨a, dx, ns.zip vs, h1, h2, hasF_no hf, a2 ρ b F1 μ σ H1 _ s1 (n.ext s e1) ?_⟩
      refine OkG.seq (rel2 := fun F' H' => RRv X.K CA F' μ H1 H') (Q := Q) (OkG.shiftR e1 oq) fun ds b1 ws F2 H2 e2 s2 rs o3 => ?_
      exact ⟨d :: ds, b1, F2, μ, ⟨rv.ext s1 e2, rs⟩, s2, (OkG.shiftR e2 o3).wish⟩
theorem se_mt0 (tk : Takes X W) (cl : Cls X.K (CA c)) (hm : Meth X.K (CA c) name g) (F : FnR X.prog X.w X.K X.mg X.base (L2.CX X.prog X.w) k g (spR X.K CA mf)) (hr : Room k X.A) (ho : SE X CA W o mo)
    (ht : eval (.Call (.Attribute o name apos) [] [] pos) X.env = (do
      let ov ← eval o X.env
      standAt apos.atName
      let (f, first) ← holding [ov] (getMethod ov name pl)
      callWith pos f first (backTo pos (starEach [] X.env)) (backToKw pos (keywordEach [] X.env))) := by rfl) :
    SE X CA W (.Call (.Attribute o name apos) [] [] pos) (mMt c name mf mo aNil) := by
  obtain ⟨to, o1, o2⟩ := ho.dat
  refine ⟨fun σ H Q => to σ H fun x H1 => ∃ a dx fs, x = .ref a ∧ H1 a = some (.ins (CA c) dx fs) ∧ fs.lookup name = none ∧ spR X.K CA mf [x] H1 Q (WE W σ), ⟨fun pins s σ H Q I h => ?_⟩, fun ρ bx F μ σ H Q s n o => o2 ρ bx F μ σ H _ s n ?_⟩
  · refine PySem.W.methodCall_KW (pl := pl) (thn (o1.run pins s σ H _ I h) fun u s1 ⟨x, H1, I1, rx, a, dx, fs, ex, ea, l, q⟩ => ?_) ht
    subst ex
    obtain rfl : u = Value.ref a := rx
    refine getmeth_ok I1 ea cl hm l ?_
    exact PySem.W.callWith_K0 (first := [.ref a]) I1.kIn hm.kp (wpAny_call (run_fnRS (us := [.ref a]) (vs := [.ref a]) F hr (passAt tk σ) I1 (.cons rfl .nil) q))
  · have o' : OkG X.K CA W F μ σ H (fun F' H' => RRv X.K CA F' μ H H') (((mo ρ bx).map R.d).bind fun d b => match d.obj b with
      | some (c', ns, _) => if c' = c ∧ hasF name ns = false then (aNil ρ b).bind fun ds b1 => mf (d :: ds) b1 else .stk
      | none => .stk) Q := by rw [map_bind]; exact o
    refine o'.seq fun d b v F1 H1 e1 s1 rv oo => ?_
    cases q : d.obj b with
    | none => rw [q] at oo; exact oo.elim
    | some t =>
      obtain ⟨c', ns, ds0⟩ := t
      rw [q] at oo
      obtain ⟨⟨ec, hf⟩, oq⟩ := okIf (show OkG X.K CA W F μ σ H (fun F' H' => RRv X.K CA F' μ H H') (if c' = c ∧ hasF name ns = false then (aNil ρ b).bind fun ds b1 => mf (d :: ds) b1 else .stk) Q from oo)
      subst ec
      obtain ⟨a, dx, vs, h1, h2, h3, h4⟩ := obj_at s1 rv q
      exact ⟨a, dx, ns.zip vs, h1, h2, hasF_no hf, [d], b, F1, μ, ⟨rv, trivial⟩, s1, (OkG.shiftR e1 oq).wish⟩
end
end
end DL

set_option Elab.async false
set_option linter.all false
set_option maxRecDepth 100000
set_option maxHeartbeats 4000000
/-! DL10: operators of own classes, isinstance. -/
namespace DQ
open PySem PyProof.Rows PySem.SeqAt
open AutoSeq1 (wpAny_loadPart')
theorem int_eq_decl {C : Value} (b : Int) (u : Tok) (l : Addr) (dd : Option Addr) (sl : Array (Option Value)) :
    Meets (Builtin.«int.__eq__» ⟨[.int b u, .ref l], []⟩) (fun _ R s => s.heap.get? l = some { cls := C, dict := dd, data := .plain, slots := sl } ∧ R (.ok (.ret .notImplemented)) s) :=
  .of_wp fun prog w A R s h => by obtain ⟨hp, g, d, tk, os⟩ := s; obtain ⟨hl, h⟩ := h; wp_walk using wpAny_loadPart' hl, wpAny_load hl; exact ⟨_, rfl, h⟩
theorem bool_eq_decl {C : Value} (b : Bool) (l : Addr) (dd : Option Addr) (sl : Array (Option Value)) :
    Meets (Builtin.«int.__eq__» ⟨[.bool b, .ref l], []⟩) (fun _ R s => s.heap.get? l = some { cls := C, dict := dd, data := .plain, slots := sl } ∧ R (.ok (.ret .notImplemented)) s) :=
  .of_wp fun prog w A R s h => by obtain ⟨hp, g, d, tk, os⟩ := s; obtain ⟨hl, h⟩ := h; wp_walk using wpAny_loadPart' hl, wpAny_load hl; exact ⟨_, rfl, h⟩
theorem str_eq_decl {C : Value} (b : Str) (u : Tok) (l : Addr) (dd : Option Addr) (sl : Array (Option Value)) :
    Meets (Builtin.«str.__eq__» ⟨[.str b u, .ref l], []⟩) (fun _ R s => s.heap.get? l = some { cls := C, dict := dd, data := .plain, slots := sl } ∧ R (.ok (.ret .notImplemented)) s) :=
  .of_wp fun prog w A R s h => by obtain ⟨hp, g, d, tk, os⟩ := s; obtain ⟨hl, h⟩ := h; wp_walk using wpAny_loadPart' hl, wpAny_load hl; exact ⟨_, rfl, h⟩
theorem none_eq_decl (l : Addr) : Meets (Builtin.«NoneType.__eq__» ⟨[.none, .ref l], []⟩) (fun _ R s => R (.ok (.ret .notImplemented)) s) :=
  .of_wp fun prog w A R s h => by obtain ⟨hp, g, d, tk, os⟩ := s; wp_walk; exact ⟨_, rfl, h⟩
theorem tuple_eq_decl (t l : Addr) (items : Array Value) (n : Nat) (dt : Option Addr) (st : Array (Option Value)) (dd : Option Addr) (sl : Array (Option Value)) {C : Addr} :
    Meets (Builtin.«tuple.__eq__» ⟨[.ref t, .ref l], []⟩) (fun _ R s => s.heap.get? t = some { cls := .type "tuple", dict := dt, data := .seq items n, slots := st } ∧ s.heap.get? l = some { cls := .ref C, dict := dd, data := .plain, slots := sl } ∧
      (∀ M : Model, PySem.W.Looks M s.heap (isSubtype (.ref C) (.type "tuple")) false) ∧ R (.ok (.ret .notImplemented)) s) :=
  .of_wp fun prog w A R s h => by
    obtain ⟨hp, g, d, tk, os⟩ := s; obtain ⟨ht, hl, lk, h⟩ := h
    have hl2 := lk (model prog w)
    wp_walk using wpAny_loadPart' ht, wpAny_loadPart' hl, wpAny_load hl, wpAny_load ht
    refine hl2.here ?_
    wp_walk
    exact ⟨_, rfl, h⟩
theorem list_eq_decl (t l : Addr) (items : Array Value) (n : Nat) (dt : Option Addr) (st : Array (Option Value)) (dd : Option Addr) (sl : Array (Option Value)) {C : Addr} :
    Meets (Builtin.«list.__eq__» ⟨[.ref t, .ref l], []⟩) (fun _ R s => s.heap.get? t = some { cls := .type "list", dict := dt, data := .seq items n, slots := st } ∧ s.heap.get? l = some { cls := .ref C, dict := dd, data := .plain, slots := sl } ∧
      (∀ M : Model, PySem.W.Looks M s.heap (isSubtype (.ref C) (.type "list")) false) ∧ R (.ok (.ret .notImplemented)) s) :=
  .of_wp fun prog w A R s h => by
    obtain ⟨hp, g, d, tk, os⟩ := s; obtain ⟨ht, hl, lk, h⟩ := h
    have hl2 := lk (model prog w)
    wp_walk using wpAny_loadPart' ht, wpAny_loadPart' hl, wpAny_load hl, wpAny_load ht
    refine hl2.here ?_
    wp_walk
    exact ⟨_, rfl, h⟩
theorem int_ne_decl {C : Value} (b : Int) (u : Tok) (l : Addr) (dd : Option Addr) (sl : Array (Option Value)) :
    Meets (Builtin.«int.__ne__» ⟨[.int b u, .ref l], []⟩) (fun _ R s => s.heap.get? l = some { cls := C, dict := dd, data := .plain, slots := sl } ∧ R (.ok (.ret .notImplemented)) s) :=
  .of_wp fun prog w A R s h => by obtain ⟨hp, g, d, tk, os⟩ := s; obtain ⟨hl, h⟩ := h; wp_walk using wpAny_loadPart' hl, wpAny_load hl; exact ⟨_, rfl, h⟩
theorem bool_ne_decl {C : Value} (b : Bool) (l : Addr) (dd : Option Addr) (sl : Array (Option Value)) :
    Meets (Builtin.«int.__ne__» ⟨[.bool b, .ref l], []⟩) (fun _ R s => s.heap.get? l = some { cls := C, dict := dd, data := .plain, slots := sl } ∧ R (.ok (.ret .notImplemented)) s) :=
  .of_wp fun prog w A R s h => by obtain ⟨hp, g, d, tk, os⟩ := s; obtain ⟨hl, h⟩ := h; wp_walk using wpAny_loadPart' hl, wpAny_load hl; exact ⟨_, rfl, h⟩
theorem str_ne_decl {C : Value} (b : Str) (u : Tok) (l : Addr) (dd : Option Addr) (sl : Array (Option Value)) :
    Meets (Builtin.«str.__ne__» ⟨[.str b u, .ref l], []⟩) (fun _ R s => s.heap.get? l = some { cls := C, dict := dd, data := .plain, slots := sl } ∧ R (.ok (.ret .notImplemented)) s) :=
  .of_wp fun prog w A R s h => by obtain ⟨hp, g, d, tk, os⟩ := s; obtain ⟨hl, h⟩ := h; wp_walk using wpAny_loadPart' hl, wpAny_load hl; exact ⟨_, rfl, h⟩
theorem none_ne_decl (l : Addr) : Meets (Builtin.«NoneType.__ne__» ⟨[.none, .ref l], []⟩) (fun _ R s => R (.ok (.ret .notImplemented)) s) :=
  .of_wp fun prog w A R s h => by obtain ⟨hp, g, d, tk, os⟩ := s; wp_walk; exact ⟨_, rfl, h⟩
theorem tuple_ne_decl (t l : Addr) (items : Array Value) (n : Nat) (dt : Option Addr) (st : Array (Option Value)) (dd : Option Addr) (sl : Array (Option Value)) {C : Addr} :
    Meets (Builtin.«tuple.__ne__» ⟨[.ref t, .ref l], []⟩) (fun _ R s => s.heap.get? t = some { cls := .type "tuple", dict := dt, data := .seq items n, slots := st } ∧ s.heap.get? l = some { cls := .ref C, dict := dd, data := .plain, slots := sl } ∧
      (∀ M : Model, PySem.W.Looks M s.heap (isSubtype (.ref C) (.type "tuple")) false) ∧ R (.ok (.ret .notImplemented)) s) :=
  .of_wp fun prog w A R s h => by
    obtain ⟨hp, g, d, tk, os⟩ := s; obtain ⟨ht, hl, lk, h⟩ := h
    have hl2 := lk (model prog w)
    wp_walk using wpAny_loadPart' ht, wpAny_loadPart' hl, wpAny_load hl, wpAny_load ht
    refine hl2.here ?_
    wp_walk
    exact ⟨_, rfl, h⟩
theorem list_ne_decl (t l : Addr) (items : Array Value) (n : Nat) (dt : Option Addr) (st : Array (Option Value)) (dd : Option Addr) (sl : Array (Option Value)) {C : Addr} :
    Meets (Builtin.«list.__ne__» ⟨[.ref t, .ref l], []⟩) (fun _ R s => s.heap.get? t = some { cls := .type "list", dict := dt, data := .seq items n, slots := st } ∧ s.heap.get? l = some { cls := .ref C, dict := dd, data := .plain, slots := sl } ∧
      (∀ M : Model, PySem.W.Looks M s.heap (isSubtype (.ref C) (.type "list")) false) ∧ R (.ok (.ret .notImplemented)) s) :=
  .of_wp fun prog w A R s h => by
    obtain ⟨hp, g, d, tk, os⟩ := s; obtain ⟨ht, hl, lk, h⟩ := h
    have hl2 := lk (model prog w)
    wp_walk using wpAny_loadPart' ht, wpAny_loadPart' hl, wpAny_load hl, wpAny_load ht
    refine hl2.here ?_
    wp_walk
    exact ⟨_, rfl, h⟩
section
variable {prog : Program} {w : World} {A : Around} {E : Value → Shared → Prop} {s : Shared} {K : PySem.W.Frag} {x C f : Addr} {ox : Obj} {od : Option Obj}
/-- bool(x) by an own __bool__ -/
theorem bool_own {Q : Value → Shared → Prop} (X : K.In s.heap) (I : PySem.W.InstAt s.heap x ox C od) (hs : PySem.W.findIn K (.ref C) "__bool__" = some (some (.ref f))) (hf : PySem.W.isFn K (.ref f) = true)
    (h : wpAny (model prog w) A.in1.in1 (call (.ref f) [.ref x]) (fun r s₁ => ∃ b, r = Value.bool b ∧ Q r s₁) E s) : wpAny (model prog w) A (call (.type "bool") [.ref x]) Q E s := by
  refine callType_codes (T := "bool") (Bi := Builtin.«object.__init__») (Q₁ := fun r s₁ => ∃ b, r = Value.bool b ∧ Q r s₁) PySem.F.called_bool (PySem.F.typeCall_bool_1 _) PySem.F.entry_object_init ?_ ?_
  · refine codeAny_of_tree ?_
    show wpAny _ A.in1.in1 (do checkBuiltinCall "bool.__new__" ⟨[.type "bool", .ref x], []⟩; again (.builtin "bool.__new__" ⟨[.type "bool", .ref x], []⟩)) _ _ s
    refine wpAny_bind (wpAny_of_eq (PySem.F.newCall_bool_1 _) (wpAny_pure ⟨plainId_quiet (by decide +kernel) _, codeAny_builtin PySem.F.entry_bool_new ?_⟩))
    rw [Around.under_plainId (by decide +kernel) _]
    unfold Builtin.«bool.__new__»
    refine wpAny_bind (wpAny_of_eq (a := true) (by first | exact PySem.W.KFB.type_bool | rfl) ?_)
    refine PySem.W.KFB.if_not rfl ?_
    refine wpAny_bind (wpAny_of_eq (a := true) PySem.F.conv_sub_bool ?_)
    refine PySem.W.KFB.if_not rfl ?_
    refine wpAny_bind (wpAny_of_eq (a := [Value.ref x]) (by rfl) ?_)
    refine wpAny_bind (m := truthy (.ref x)) ?_
    unfold truthy
    refine wpAny_bind (m := callSpecial? (.ref x) (Str.ofString "__bool__")) (PySem.W.special_fn X I hs (beq_iff_eq.mp hf) (wpAny_mono h (fun r s' hr => ?_) fun _ _ y => y))
    obtain ⟨b, rfl, hq⟩ := hr
    exact wpAny_pure (wpAny_pure ⟨b, rfl, hq⟩)
  · rintro obj s₁ ⟨b, rfl, hq⟩
    exact ⟨rfl, PySem.F.args_object_init_2 _ _, object_init_meets PySem.F.called_bool.init.lookup PySem.F.called_bool.made (by decide) prog w A.in1 _ s₁ ⟨rfl, rfl, hq⟩⟩
/-- object.__ne__ by an own __eq__ that answers a bool -/
theorem ifBound_objNe {b : Value} {Q : Option Value → Shared → Prop} (X : K.In s.heap) (I : PySem.W.InstAt s.heap x ox C od) (hn : PySem.W.findIn K (.ref C) "__ne__" = some (some (.builtin "object.__ne__"))) (hm : PySem.W.mroIn K C (.type "object") = some true)
    (hs : PySem.W.findIn K (.ref C) "__eq__" = some (some (.ref f))) (hf : PySem.W.isFn K (.ref f) = true) (hu : A.in1.units < cLine)
    (h : wpAny (model prog w) A.in1 (call (.ref f) [.ref x, b]) (fun v s' => ∃ k, v = .bool k ∧ Q (some (.bool (!k))) s') E s) : wpAny (model prog w) A (callSpecialIfBound? (.ref x) "__ne__" [b]) Q E s := by
  have ent : ∀ {Q : Value → Shared → Prop}, wpAny (model prog w) A.in1 (call (.ref f) [.ref x, b]) (fun v s' => ∃ k, v = .bool k ∧ Q (.bool (!k)) s') E s → wpAny (model prog w) A (call (.builtin "object.__ne__") [.ref x, b]) Q E s := by
    intro Q h
    refine wpAny_call (codeAny_call_builtin F.cmp_object.ne.plain F.cmpEntry_ne (PySem.W.check_slot F.cmpKind_ne F.cmpSplit_ne (I.type.andThen (PySem.W.looks_mroIn X hm)) (F.cmpArgs_ne _ _) ?_))
    unfold Builtin.«object.__ne__»
    refine wpAny_bind (wpAny_of_eq (a := (Value.ref x, [b])) (by rfl) ?_)
    refine wpAny_bind (wpAny_cRoomFor hu ?_)
    refine wpAny_bind (m := callSpecialIfBound? (.ref x) (Str.ofString "__eq__") [b]) (PySem.W.ifBound_K X I hs hf (wpAny_mono h (fun v s' hv => ?_) fun _ _ e => e))
    obtain ⟨k, rfl, hq⟩ := hv
    exact wpAny_bind (wpAny_truthy_bool (wpAny_pure hq))
  simp only [callSpecialIfBound?, bindSpecialIfBound?]
  refine wpAny_holding (wpAny_bind (wpAny_bind (wpAny_bind (I.type.here ((PySem.W.looks_findIn X hn).here ?_)))))
  refine wpAny_bind (wpAny_askSetting (wpAny_ite ?_))
  have fin : wpAny (model prog w) A (call (.builtin "object.__ne__") ([.ref x] ++ [b]) >>= fun v => pure (some v)) Q E s := wpAny_bind (wpAny_mono (ent h) (fun v s' h' => wpAny_pure h') fun _ _ h' => h')
  split
  · exact wpAny_bind (wpAny_of_eq (F.cmp_object.ne.bind _) (wpAny_pure (by exact fin)))
  · exact wpAny_tryCatch (wpAny_bind (wpAny_of_eq (F.cmp_object.ne.bind _) (wpAny_pure (by exact fin))))
theorem try_ne {b : Value} {Q : Value → Shared → Prop} (X : K.In s.heap) (I : PySem.W.InstAt s.heap x ox C od) (hn : PySem.W.findIn K (.ref C) "__ne__" = some (some (.builtin "object.__ne__"))) (hm : PySem.W.mroIn K C (.type "object") = some true)
    (hs : PySem.W.findIn K (.ref C) "__eq__" = some (some (.ref f))) (hf : PySem.W.isFn K (.ref f) = true) (hu : A.in1.units < cLine)
    (h : wpAny (model prog w) A.in1 (call (.ref f) [.ref x, b]) (fun v s' => ∃ k, v = .bool k ∧ Q (.bool (!k)) s') E s) : wpAny (model prog w) A (tryCompare (.ref x) "__ne__" b) (fun r s' => ∃ v, r = some v ∧ Q v s') E s := by
  unfold tryCompare
  refine wpAny_bind (ifBound_objNe X I hn hm hs hf hu (wpAny_mono h (fun v s' hv => ?_) fun _ _ e => e))
  obtain ⟨k, rfl, hq⟩ := hv
  exact ⟨k, rfl, wpAny_pure ⟨_, rfl, hq⟩⟩
/-- x == b, x != b, the method of x is first asked: r what it gives -/
theorem rc_left {op : CmpOp} {b tb : Value} {Q : Value → Shared → Prop} (hu : A.units < cLine) (X : K.In s.heap) (I : PySem.W.InstAt s.heap x ox C od) (hb : PySem.W.Looks (model prog w) s.heap (typeOf b) tb) (hn : PySem.W.notFirst K C tb = true)
    (one : wpAny (model prog w) A (tryCompare (.ref x) (cmpInfo op).2.1 b) (fun r s' => ∃ v, r = some v ∧ Q v s') E s) : wpAny (model prog w) A (richCompare op (.ref x) b) Q E s := by
  unfold richCompare
  simp only [oneThing_ref]
  refine wpAny_holding (wpAny_bind (wpAny_cRoomFor hu ?_))
  refine wpAny_bind (I.type.here (wpAny_bind (hb.here ?_)))
  split
  · rename_i q
    have e : PySem.W.subIn K tb (.ref C) = some false := by
      rcases Bool.or_eq_true_iff.mp hn with e | e
      · rw [beq_iff_eq.mp e] at q; simp at q
      · exact beq_iff_eq.mp e
    refine wpAny_bind ((PySem.W.looks_subIn X e).here ?_)
    simp only [Bool.false_eq_true, if_false]
    refine wpAny_bind (wpAny_mono one (fun r s' z => ?_) fun _ _ e => e)
    obtain ⟨v, rfl, hq⟩ := z
    exact wpAny_pure hq
  · refine wpAny_bind (wpAny_pure ?_)
    simp only [Bool.false_eq_true, if_false]
    refine wpAny_bind (wpAny_mono one (fun r s' z => ?_) fun _ _ e => e)
    obtain ⟨v, rfl, hq⟩ := z
    exact wpAny_pure hq
/-- b == x, b != x, b of a built-in type that declines -/
theorem rc_right {op : CmpOp} {b : Value} {T : String} {Q : Value → Shared → Prop} (hu : A.units < cLine) (X : K.In s.heap) (I : PySem.W.InstAt s.heap x ox C od) (hb : PySem.W.Looks (model prog w) s.heap (typeOf b) (.type T)) (ho : oneThing? op b (.ref x) = none)
    (hn : PySem.W.subIn K (.ref C) (.type T) = some false)
    (zero : ∀ Q' : Option Value → Shared → Prop, Q' none s → wpAny (model prog w) A (tryCompare b (cmpInfo op).2.1 (.ref x)) Q' E s)
    (one : wpAny (model prog w) A (tryCompare (.ref x) (cmpInfo op).2.2 b) (fun r s' => ∃ v, r = some v ∧ Q v s') E s) : wpAny (model prog w) A (richCompare op b (.ref x)) Q E s := by
  unfold richCompare
  simp only [ho]
  refine wpAny_holding (wpAny_bind (wpAny_cRoomFor hu ?_))
  refine wpAny_bind (hb.here (wpAny_bind (I.type.here ?_)))
  rw [show (Value.type T != Value.ref C) = true from by simp]
  simp only [if_true]
  refine wpAny_bind ((PySem.W.looks_subIn X hn).here ?_)
  simp only [Bool.false_eq_true, if_false, Bool.not_false, if_true]
  refine wpAny_bind (zero _ ?_)
  refine wpAny_bind (wpAny_mono one (fun r s' z => ?_) fun _ _ e => e)
  obtain ⟨v, rfl, hq⟩ := z
  exact wpAny_pure hq
end
end DQ

set_option Elab.async false
set_option linter.all false
set_option maxRecDepth 100000
set_option maxHeartbeats 4000000
/-! DL11: types; own operators by what their defs do. -/
namespace DL
open PySem PySem.Spec L2
/-! ### types as numbers -/
def D.tc (bx : List D) : D → Option Nat
  | .non => some 0
  | .bl _ => some 1
  | .int _ => some 2
  | .str _ => some 3
  | .tup _ => some 4
  | .lst _ => some 5
  | .rol _ => some 5
  | .dk _ _ => some 6
  | .dt _ _ => some 6
  | .ins c _ _ => some (10 + c)
  | .box n => match bx[n]? with
    | some (.lst _) => some 5
    | some (.dk _ _) => some 6
    | some (.dt _ _) => some 6
    | some (.ins c _ _) => some (10 + c)
    | _ => none
  | .adr _ => none
  | .ty _ => none
def tcV (CA : Ly) : Nat → Value
  | 0 => .type "NoneType"
  | 1 => .type "bool"
  | 2 => .type "int"
  | 3 => .type "str"
  | 4 => .type "tuple"
  | 5 => .type "list"
  | 6 => .type "dict"
  | n => .ref (CA (n - 10))
def codes (cs : List Nat) : List Nat := [0, 1, 2, 3, 4, 5, 6] ++ cs.map (10 + ·)
structure KC (K : PySem.W.Frag) (C : Addr) : Prop where
  cl : Cls K C
  ca : PySem.W.findIn K (.ref C) "__class__" = some (some (.builtin "object.__class__"))
  cn : PySem.W.specialIn K (.builtin "object.__class__") "__get__" = some (some (.builtin "getset_descriptor.__get__"))
  ct : PySem.W.takesIn K (.builtin "object.__class__") = some true
  cm : PySem.W.mroIn K C (.type "object") = some true
theorem tyT {K : PySem.W.Frag} {H : Hp} {a : Addr} {vs : List V} (h : SqT K H a vs) : TyX K H (.ref a) (.type "tuple") := by
  rcases h with (h | ⟨o, h⟩) | ⟨o, its, n, h, c, _⟩
  · exact .base (.tup h)
  · exact .fTuple h
  · exact .kTuple h c
theorem tyL {K : PySem.W.Frag} {H : Hp} {a : Addr} {vs : List V} (h : SqL K H a vs) : TyX K H (.ref a) (.type "list") := by
  rcases h with (h | ⟨o, h⟩) | ⟨o, its, n, h, c, _⟩
  · exact .base (.lst h)
  · exact .base (.frz h)
  · exact .kList h c
theorem mem_codes {cs : List Nat} {c : Nat} (h : 10 + c ∈ codes cs) : c ∈ cs := by
  unfold codes at h
  rcases List.mem_append.mp h with h | h
  · simp at h; omega
  · obtain ⟨c', h1, h2⟩ := List.mem_map.mp h
    have : c' = c := by omega
    exact this ▸ h1
theorem tcV_own {CA : Ly} {c : Nat} : tcV CA (10 + c) = .ref (CA c) := by
  show tcV CA (10 + c) = _
  rw [show 10 + c = (c + 3) + 7 from by omega]
  show Value.ref (CA ((c + 3) + 7 - 10)) = _
  rw [show (c + 3) + 7 - 10 = c from by omega]
theorem tc_at {K : PySem.W.Frag} {CA : Ly} {F : Addr → Prop} {μ : List Addr} {H : Hp} {bx : List D} {cs : List Nat} {d : D} {v : V} {t : Nat} (hc : ∀ c ∈ cs, KC K (CA c)) (s : Sx K CA F μ H bx) (r : Rp K CA F μ H d v) (e : d.tc bx = some t) (ht : t ∈ codes cs) : TyX K H v (tcV CA t) := by
  have own : ∀ {a dx : Addr} {fs : List (Str × V)} {c : Nat}, H a = some (.ins (CA c) dx fs) → 10 + c ∈ codes cs → TyX K H (.ref a) (tcV CA (10 + c)) := fun {a dx fs c} h hm => by
    have k := hc c (mem_codes hm)
    rw [tcV_own]
    exact .base (.ins h k.cl k.ca k.cn k.ct k.cm)
  cases d with
  | non => cases e; rw [show v = V.non from r]; exact .base .non
  | bl b => cases e; rw [show v = V.bl b from r]; exact .base (.bl b)
  | int i => cases e; rw [show v = V.int i from r]; exact .base (.int i)
  | str x => cases e; rw [show v = V.str x from r]; exact .base (.str x)
  | tup ds => cases e; obtain ⟨a, vs, rfl, q, _⟩ := r; exact tyT q.sq
  | lst ds => cases e; obtain ⟨a, vs, rfl, q, _⟩ := r; exact tyL q.sq
  | rol ds => cases e; obtain ⟨a, vs, rfl, q, _⟩ := r; exact tyL q.sq
  | dk ks ds => cases e; obtain ⟨a, vs, rfl, _, q, _⟩ := r; exact .base (.dK q)
  | dt ks ds => cases e; obtain ⟨a, vs, rfl, _, q, _⟩ := r; exact .base (.dT q)
  | ins c ns ds => cases e; obtain ⟨a, dx, vs, rfl, _, q, _⟩ := r; exact own q ht
  | adr a => cases e
  | ty n => cases e
  | box n =>
    obtain ⟨a, rfl, q2⟩ := r
    unfold D.tc at e
    cases hb : bx[n]? with
    | none => simp only [hb] at e; cases e
    | some d' =>
      have at_ := s.at_ n d' a hb q2
      cases d' <;> simp only [hb] at e <;> first | (cases e; done) | skip
      · obtain ⟨vs, w1, _⟩ := at_; cases e; exact .base (.lst w1)
      · obtain ⟨dx, vs, w1, _⟩ := at_; cases e; exact own w1 ht
      · obtain ⟨vs, w1, _⟩ := at_; cases e; exact .base (.dK w1)
      · obtain ⟨vs, w1, _⟩ := at_; cases e; exact .base (.dT w1)
def tyN (n : String) : Option Nat :=
  if n = "bool" then some 1 else if n = "int" then some 2 else if n = "str" then some 3 else if n = "tuple" then some 4 else if n = "list" then some 5 else if n = "dict" then some 6 else none
def D.cc (CA : Ly) (cs : List Nat) : D → Option Nat
  | .ty n => tyN n
  | .adr a => (cs.find? fun c => decide (CA c = a)).map (10 + ·)
  | _ => none
theorem tyN_at {n : String} {t : Nat} (CA : Ly) (h : tyN n = some t) : tcV CA t = .type n ∧ t ∈ [1, 2, 3, 4, 5, 6] := by
  unfold tyN at h
  repeat' split at h
  all_goals first | (cases h; done) | (cases h; subst_vars; exact ⟨rfl, by decide⟩)
theorem cc_at {K : PySem.W.Frag} {CA : Ly} {F : Addr → Prop} {μ : List Addr} {H : Hp} {cs : List Nat} {d : D} {v : V} {t : Nat} (r : Rp K CA F μ H d v) (e : d.cc CA cs = some t) : ClsV v (tcV CA t) ∧ t ∈ codes cs := by
  cases d with
  | ty n =>
    obtain ⟨h1, h2⟩ := tyN_at CA (show tyN n = some t from e)
    rw [h1, show v = V.ty n from r]
    refine ⟨.ty n, List.mem_append_left _ ?_⟩
    simp at h2 ⊢
    omega
  | adr a =>
    have e' : (cs.find? fun c => decide (CA c = a)).map (10 + ·) = some t := e
    obtain ⟨c, h1, h2⟩ := Option.map_eq_some_iff.mp e'
    have h3 := List.find?_some h1
    have h4 : CA c = a := of_decide_eq_true h3
    subst h2
    rw [tcV_own, h4, show v = V.ref a from r]
    exact ⟨.own a, List.mem_append_right _ (List.mem_map.mpr ⟨c, List.mem_of_find?_eq_some h1, rfl⟩)⟩
  | _ => cases e
section
variable {X : Cx} {CA : Ly} {W : WX} {cs : List Nat}
def isiD (CA : Ly) (cs : List Nat) (tab : Nat → Nat → Bool) : D → D → List D → Out R := fun x t bx => match x.tc bx, t.cc CA cs with
  | some a, some b => if a ∈ codes cs then OK (.bl (tab a b)) bx else .stk
  | _, _ => .stk
theorem dc_isi {tab : Nat → Nat → Bool} (hc : ∀ c ∈ cs, KC X.K (CA c)) (hk : ∀ a ∈ codes cs, ∀ b ∈ codes cs, PySem.W.kitOne X.K (tcV CA a) (tcV CA b) = some (tab a b)) : DCall X CA W (.builtin "isinstance") (un2 (isiD CA cs tab)) :=
  dc2 call_isi fun d v d' v' bx F μ σ H Q s r r' o => by
    unfold isiD at o
    cases q : d.tc bx with
    | none => simp only [q] at o; exact o.elim
    | some a => cases q' : d'.cc CA cs with
      | none => simp only [q, q'] at o; exact o.elim
      | some b =>
        simp only [q, q'] at o
        obtain ⟨ha, o⟩ := okIf o
        obtain ⟨h1, h2⟩ := cc_at (CA := CA) r' q'
        exact ⟨v, v', tcV CA a, tcV CA b, tab a b, rfl, h1, tc_at hc s r q ha, hk a ha b h2, okV o s rfl⟩
/-! ### own defs as operators -/
theorem run_atS {k : Nat} {g : Addr} {sp : Sp} {E : XK} {A : Around} {pins : List (Addr × Obj)} {σ : L2.St} {H : Hp} {s : Shared} {Q : VK} {us : List Value} {ws : List V} (F : FnR X.prog X.w X.K X.mg X.base (L2.CX X.prog X.w) k g sp) (hr : Room k A) (e0 : Env0 X.prog X.w X.K X.mg X.base A X.stack s H)
    (hx : PassesAt (L2.CX X.prog X.w) X σ E) (I : Inv X pins σ H s) (r : Vals ws us) (h : sp ws H Q E) :
    codeAny (model X.prog X.w) A (.call (.ref g) ⟨us, []⟩) (fun r s' => match r with | .ok (.ret v) => EP X pins σ Q v s' | .ok _ => False | .error e => X.xe e s') s := by
  refine codeAny_mono (F A X.stack s H us ws Q E hr e0 r h) fun r s' hq => ?_
  cases r with
  | error e => exact hx pins H s e s' I hq
  | ok fl =>
    cases fl with
    | ret u => exact I.after hq
    | next => exact False.elim hq
    | brk => exact False.elim hq
    | cont => exact False.elim hq
theorem ins_inst {pins : List (Addr × Obj)} {σ : L2.St} {H : Hp} {s : Shared} {a C dx : Addr} {fs : List (Str × V)} (I : Inv X pins σ H s) (e : H a = some (.ins C dx fs)) : ∃ od, PySem.W.InstAt s.heap a (PySem.W.instObj C dx) C (some od) := by
  obtain ⟨mA, O, _⟩ := ins_get I.hok e
  obtain ⟨od, J, _⟩ := O.look
  exact ⟨od, J⟩
/-- what == of the class at C asks -/
structure EqC (K : PySem.W.Frag) (CA : Ly) (cs : List Nat) (C g : Addr) : Prop where
  eq : PySem.W.findIn K (.ref C) "__eq__" = some (some (.ref g))
  fn : PySem.W.isFn K (.ref g) = true
  ne : PySem.W.findIn K (.ref C) "__ne__" = some (some (.builtin "object.__ne__"))
  om : PySem.W.mroIn K C (.type "object") = some true
  nf : ∀ t ∈ codes cs, PySem.W.notFirst K C (tcV CA t) = true
  sb : ∀ t ∈ [0, 1, 2, 3, 4, 5], PySem.W.subIn K (.ref C) (tcV CA t) = some false
def eqC (cs : List Nat) (c : Nat) (mf : MF) : D → D → List D → Out R := fun x y bx => match x.obj bx with
  | some (c', _, _) => (match y.tc bx with
    | some t => if c' = c ∧ t ∈ codes cs then mf [x, y] bx else .stk
    | none => .stk)
  | none => (match x.tc bx, y.obj bx with
    | some t, some (c', _, _) => if t ∈ [0, 1, 2, 3, 4, 5] ∧ c' = c then mf [y, x] bx else .stk
    | _, _ => .stk)
def negO (o : Out R) : Out R := o.bind fun r b => match r with
  | .val (.bl k) => OK (.bl (!k)) b
  | _ => .stk
def neC (cs : List Nat) (c : Nat) (mf : MF) : D → D → List D → Out R := fun x y bx => match x.obj bx with
  | some (c', _, _) => (match y.tc bx with
    | some t => if c' = c ∧ t ∈ codes cs then negO (mf [x, y] bx) else .stk
    | none => .stk)
  | none => (match x.tc bx, y.obj bx with
    | some t, some (c', _, _) => if t ∈ [0, 1, 2, 3, 4, 5] ∧ c' = c then negO (mf [y, x] bx) else .stk
    | _, _ => .stk)
/-- none leaves it -/
def mN (mf : MF) : MF := fun ds bx => noX (mf ds bx)
abbrev E0 : XK := fun _ _ _ => False
theorem pass0' {X : Cx} {σ : L2.St} : PassesAt (L2.CX X.prog X.w) X σ E0 := fun _ _ _ _ _ _ ⟨_, _, _, _, _, _, _, _, _, _, _, _, h⟩ => h.elim
end
section
variable {X : Cx} {CA : Ly} {W : WX} {cs : List Nat} {k c : Nat} {g : Addr} {mf : MF}
theorem Rps.one {K : PySem.W.Frag} {F : Addr → Prop} {μ : List Addr} {H : Hp} {d : D} {v : V} (h : Rp K CA F μ H d v) : Rps K CA F μ H [d] [v] := ⟨h, trivial⟩
theorem Rps.two {K : PySem.W.Frag} {F : Addr → Prop} {μ : List Addr} {H : Hp} {d d' : D} {v v' : V} (h : Rp K CA F μ H d v) (h' : Rp K CA F μ H d' v') : Rps K CA F μ H [d, d'] [v, v'] := ⟨h, h', trivial⟩
/-- what a def without exceptions gives -/
def OkN (K : PySem.W.Frag) (CA : Ly) (F : Addr → Prop) (μ : List Addr) (H : Hp) (o : Out R) (Q : VK) : Prop := OkG K CA W0 F μ [] H (fun F' H' => RRv K CA F' μ H H') (noX o) Q
theorem OkN.of {F : Addr → Prop} {μ : List Addr} {σ : L2.St} {H : Hp} {o : Out R} {Q : VK} (h : OkG X.K CA W F μ σ H (fun F' H' => RRv X.K CA F' μ H H') (noX o) Q) : OkN X.K CA F μ H o Q := by
  unfold OkN
  cases o with
  | ok r b => exact h
  | exn c ns ds b => exact h
  | stk => exact h
theorem OkN.sp {F : Addr → Prop} {μ : List Addr} {H : Hp} {bx ds : List D} {vs : List V} {Q : VK} (s : Sx X.K CA F μ H bx) (r : Rps X.K CA F μ H ds vs) (h : OkN X.K CA F μ H (mf ds bx) Q) : spR X.K CA mf vs H Q E0 := by
  refine ⟨ds, bx, F, μ, r, s, ?_⟩
  unfold OkN at h
  cases q : mf ds bx with
  | ok r b => rw [q] at h; exact h
  | exn c ns ds b => rw [q] at h; exact h.elim
  | stk => rw [q] at h; exact h.elim
/-- the canonical reading of an operation without exceptions -/
def rN (K : PySem.W.Frag) (CA : Ly) (g : D → D → List D → Out R) : R2 := fun x y H Q => ∃ d d' bx F μ, Sx K CA F μ H bx ∧ Rp K CA F μ H d x ∧ Rp K CA F μ H d' y ∧ OkN K CA F μ H (g d d' bx) Q
theorem dop_rN {f : Value → Value → Sem Value} {g : D → D → List D → Out R} (h : OpR X f (rN X.K CA g)) : DOp X CA W f (fun x y bx => noX (g x y bx)) :=
  ⟨_, h, fun x y vx vy bx F μ σ H Q s rx ry o => ⟨x, y, bx, F, μ, s, rx, ry, OkN.of o⟩⟩
/-- a built-in value declines an instance -/
theorem declines {pins : List (Addr × Obj)} {σ : L2.St} {H : Hp} {s : Shared} {A : Around} {E : Value → Shared → Prop} {F : Addr → Prop} {μ : List Addr} {bx : List D} {d : D} {x : V} {u : Value} {t : Nat} {a C : Addr} {dx : Addr} {od : Option Obj} (I : Inv X pins σ H s) (rx : RelV x u)
    (sx : Sx X.K CA F μ H bx) (rp : Rp X.K CA F μ H d x) (ty : d.tc bx = some t) (ht : t ∈ [0, 1, 2, 3, 4, 5]) (J : PySem.W.InstAt s.heap a (PySem.W.instObj C dx) C od) (sb : ∀ t ∈ [0, 1, 2, 3, 4, 5], PySem.W.subIn X.K (.ref C) (tcV CA t) = some false) :
    (∀ Q' : Option Value → Shared → Prop, Q' none s → wpAny (model X.prog X.w) A (tryCompare u (cmpInfo .Eq).2.1 (.ref a)) Q' E s) ∧
    (∀ Q' : Option Value → Shared → Prop, Q' none s → wpAny (model X.prog X.w) A (tryCompare u (cmpInfo .NotEq).2.1 (.ref a)) Q' E s) ∧ oneThing? .Eq u (.ref a) = none ∧ oneThing? .NotEq u (.ref a) = none := by
  have hl : s.heap.get? a = some { cls := .ref C, dict := (PySem.W.instObj C dx).dict, data := .plain, slots := (PySem.W.instObj C dx).slots } := J.1
  have lk : ∀ (T : String), (∃ t ∈ [0, 1, 2, 3, 4, 5], tcV CA t = .type T) → ∀ M : Model, PySem.W.Looks M s.heap (isSubtype (.ref C) (.type T)) false := fun T ⟨t, h1, h2⟩ M => PySem.W.looks_subIn I.kIn (h2 ▸ sb t h1)
  have tup : ∀ {p : Addr} {xs : List V}, SqT X.K H p xs → u = .ref p → (∀ Q' : Option Value → Shared → Prop, Q' none s → wpAny (model X.prog X.w) A (tryCompare u (cmpInfo .Eq).2.1 (.ref a)) Q' E s) ∧
    (∀ Q' : Option Value → Shared → Prop, Q' none s → wpAny (model X.prog X.w) A (tryCompare u (cmpInfo .NotEq).2.1 (.ref a)) Q' E s) ∧ oneThing? .Eq u (.ref a) = none ∧ oneThing? .NotEq u (.ref a) = none := fun {p xs} h eu => by
    subst eu
    obtain ⟨its, r, ⟨o, ho, hc, n, hd⟩, hz⟩ := I.tuple h
    obtain ⟨oc, od', data, sl⟩ := o
    simp only at hc hd
    subst hc hd
    have e1 := fun (M : Model) => lk "tuple" ⟨4, by decide, rfl⟩ M
    exact ⟨fun Q' hq => wpAny_tryCompare_declines ⟨_, ho, rfl⟩ PySem.F.slot_tuple_eq (call_meets PySem.F.slot_tuple_eq ⟨_, ho, rfl⟩ PySem.F.entry_tuple_eq (PySem.F.args_tuple_eq_2 _ _) (DQ.tuple_eq_decl _ _ _ _ _ _ _ _) ⟨ho, hl, e1, rfl, hq⟩),
      fun Q' hq => wpAny_tryCompare_declines ⟨_, ho, rfl⟩ PySem.F.slot_tuple_ne (call_meets PySem.F.slot_tuple_ne ⟨_, ho, rfl⟩ PySem.F.entry_tuple_ne (PySem.F.args_tuple_ne_2 _ _) (DQ.tuple_ne_decl _ _ _ _ _ _ _ _) ⟨ho, hl, e1, rfl, hq⟩), oneThing_ref .., oneThing_ref ..⟩
  have lst : ∀ {p : Addr} {xs : List V}, SqL X.K H p xs → u = .ref p → (∀ Q' : Option Value → Shared → Prop, Q' none s → wpAny (model X.prog X.w) A (tryCompare u (cmpInfo .Eq).2.1 (.ref a)) Q' E s) ∧
    (∀ Q' : Option Value → Shared → Prop, Q' none s → wpAny (model X.prog X.w) A (tryCompare u (cmpInfo .NotEq).2.1 (.ref a)) Q' E s) ∧ oneThing? .Eq u (.ref a) = none ∧ oneThing? .NotEq u (.ref a) = none := fun {p xs} h eu => by
    subst eu
    obtain ⟨its, r, pl, hz⟩ := I.list h
    obtain ⟨o, ho, hc, n, hd⟩ := pl.isList
    obtain ⟨oc, od', data, sl⟩ := o
    simp only at hc hd
    subst hc hd
    have e1 := fun (M : Model) => lk "list" ⟨5, by decide, rfl⟩ M
    exact ⟨fun Q' hq => wpAny_tryCompare_declines ⟨_, ho, rfl⟩ PySem.F.slot_list_eq (call_meets PySem.F.slot_list_eq ⟨_, ho, rfl⟩ PySem.F.entry_list_eq (PySem.F.args_list_eq_2 _ _) (DQ.list_eq_decl _ _ _ _ _ _ _ _) ⟨ho, hl, e1, rfl, hq⟩),
      fun Q' hq => wpAny_tryCompare_declines ⟨_, ho, rfl⟩ PySem.F.slot_list_ne (call_meets PySem.F.slot_list_ne ⟨_, ho, rfl⟩ PySem.F.entry_list_ne (PySem.F.args_list_ne_2 _ _) (DQ.list_ne_decl _ _ _ _ _ _ _ _) ⟨ho, hl, e1, rfl, hq⟩), oneThing_ref .., oneThing_ref ..⟩
  have no : ∀ n : Nat, 6 ≤ n → n ∉ [0, 1, 2, 3, 4, 5] := fun n h z => by simp at z; omega
  cases d with
  | non =>
    cases (show x = V.non from rp)
    cases (show u = Value.none from rx)
    exact ⟨fun Q' hq => wpAny_tryCompare_declines rfl PySem.F.slot_NoneType_eq (call_meets PySem.F.slot_NoneType_eq rfl PySem.F.entry_NoneType_eq (PySem.F.args_NoneType_eq_2 _ _) (DQ.none_eq_decl _) ⟨rfl, hq⟩),
      fun Q' hq => wpAny_tryCompare_declines rfl PySem.F.slot_NoneType_ne (call_meets PySem.F.slot_NoneType_ne rfl PySem.F.entry_NoneType_ne (PySem.F.args_NoneType_ne_2 _ _) (DQ.none_ne_decl _) ⟨rfl, hq⟩), rfl, rfl⟩
  | bl b =>
    cases (show x = V.bl b from rp)
    cases (show u = Value.bool b from rx)
    exact ⟨fun Q' hq => wpAny_tryCompare_declines rfl PySem.F.slot_bool_eq (call_meets PySem.F.slot_bool_eq rfl PySem.F.entry_int_eq (PySem.F.args_int_eq_2 _ _) (DQ.bool_eq_decl _ _ _ _) ⟨hl, rfl, hq⟩),
      fun Q' hq => wpAny_tryCompare_declines rfl PySem.F.slot_bool_ne (call_meets PySem.F.slot_bool_ne rfl PySem.F.entry_int_ne (PySem.F.args_int_ne_2 _ _) (DQ.bool_ne_decl _ _ _ _) ⟨hl, rfl, hq⟩), rfl, rfl⟩
  | int i =>
    cases (show x = V.int i from rp)
    obtain ⟨tk, rfl⟩ := (show ∃ t, u = Value.int i t from rx)
    exact ⟨fun Q' hq => wpAny_tryCompare_declines (typeIs_int _ _ _) PySem.F.slot_int_eq (call_meets PySem.F.slot_int_eq (typeIs_int _ _ _) PySem.F.entry_int_eq (PySem.F.args_int_eq_2 _ _) (DQ.int_eq_decl _ _ _ _ _) ⟨hl, rfl, hq⟩),
      fun Q' hq => wpAny_tryCompare_declines (typeIs_int _ _ _) PySem.F.slot_int_ne (call_meets PySem.F.slot_int_ne (typeIs_int _ _ _) PySem.F.entry_int_ne (PySem.F.args_int_ne_2 _ _) (DQ.int_ne_decl _ _ _ _ _) ⟨hl, rfl, hq⟩), rfl, rfl⟩
  | str y =>
    cases (show x = V.str y from rp)
    obtain ⟨tk, rfl⟩ := (show ∃ t, u = Value.str y t from rx)
    exact ⟨fun Q' hq => wpAny_tryCompare_declines (typeIs_str _ _ _) PySem.F.slot_str_eq (call_meets PySem.F.slot_str_eq (typeIs_str _ _ _) PySem.F.entry_str_eq (PySem.F.args_str_eq_2 _ _) (DQ.str_eq_decl _ _ _ _ _) ⟨hl, rfl, hq⟩),
      fun Q' hq => wpAny_tryCompare_declines (typeIs_str _ _ _) PySem.F.slot_str_ne (call_meets PySem.F.slot_str_ne (typeIs_str _ _ _) PySem.F.entry_str_ne (PySem.F.args_str_ne_2 _ _) (DQ.str_ne_decl _ _ _ _ _) ⟨hl, rfl, hq⟩), rfl, rfl⟩
  | tup ds =>
    obtain ⟨p, vs, rfl, q, _⟩ := rp
    exact tup q.sq rx
  | lst ds =>
    obtain ⟨p, vs, rfl, q, _⟩ := rp
    exact lst q.sq rx
  | rol ds =>
    obtain ⟨p, vs, rfl, q, _⟩ := rp
    exact lst q.sq rx
  | box n =>
    obtain ⟨p, rfl, q2⟩ := rp
    unfold D.tc at ty
    cases hb : bx[n]? with
    | none => simp only [hb] at ty; cases ty
    | some d' =>
      have at_ := sx.at_ n d' p hb q2
      cases d' <;> simp only [hb] at ty <;> first | (cases ty; done) | skip
      · obtain ⟨vs, w1, _⟩ := at_; exact lst (.inl (.inl w1)) rx
      · cases ty; exact absurd ht (no _ (by omega))
      · cases ty; exact absurd ht (no _ (by omega))
      · cases ty; exact absurd ht (no _ (by omega))
  | ins c ns ds => cases ty; exact absurd ht (no _ (by omega))
  | dk ks ds => cases ty; exact absurd ht (no _ (by omega))
  | dt ks ds => cases ty; exact absurd ht (no _ (by omega))
  | adr b => cases ty
  | ty n => cases ty
theorem KitX.looks {pins : List (Addr × Obj)} {σ : L2.St} {H : Hp} {s : Shared} {x : V} {u t : Value} (I : Inv X pins σ H s) (rx : RelV x u) (ty : TyX X.K H x t) (M : Model) : PySem.W.Looks M s.heap (typeOf u) t := by
  obtain ⟨P, Z, p, _⟩ := kit_of I rx ty
  exact Z.ty M s.heap I.kIn p
theorem negO_ok {F : Addr → Prop} {μ : List Addr} {H : Hp} {o : Out R} {Q : VK} (h : OkN X.K CA F μ H (negO o) Q) : OkN X.K CA F μ H o (fun z H' => ∃ k, z = .bl k ∧ Q (.bl (!k)) H') := by
  unfold OkN at *
  cases o with
  | stk => exact h
  | exn c ns ds b => exact h
  | ok r b =>
    cases r with
    | new d => exact h.elim
    | val d => cases d with
      | bl k => exact fun v F' H' e s rr => ⟨k, rr, h (.bl (!k)) F' H' e s rfl⟩
      | _ => exact h.elim
theorem op_eqC (hc : ∀ c ∈ cs, KC X.K (CA c)) (e : EqC X.K CA cs (CA c) g) (F : FnR X.prog X.w X.K X.mg X.base (L2.CX X.prog X.w) k g (spR X.K CA mf)) (hr : Room k X.A) : OpR X (compareOp .Eq) (rN X.K CA (eqC cs c mf)) := by
  intro pins s σ H x y v u Q I rx ry ⟨d, d', bx, FF, μ, sx, rd, rd', o⟩
  show wpAny _ _ (richCompare .Eq v u) _ _ _
  unfold eqC at o
  cases q : d.obj bx with
  | some t =>
    obtain ⟨c', ns, ds⟩ := t
    simp only [q] at o
    cases q2 : d'.tc bx with
    | none => simp only [q2] at o; exact o.elim
    | some t =>
      simp only [q2] at o
      by_cases hh : c' = c ∧ t ∈ codes cs
      · rw [if_pos hh] at o
        obtain ⟨rfl, ht⟩ := hh
        obtain ⟨a, dx, vs, h1, h2, h3, h4⟩ := obj_at sx rd q
        subst h1
        obtain rfl : v = Value.ref a := rx
        obtain ⟨od, J⟩ := ins_inst I h2
        refine DQ.rc_left hr.units0 I.kIn J (KitX.looks I ry (tc_at hc sx rd' q2 ht) _) (e.nf t ht) ?_
        unfold tryCompare
        refine wpAny_bind (PySem.W.ifBound_K I.kIn J e.eq e.fn (wpAny_mono (wpAny_call (run_atS (us := [.ref a, u]) (ws := [.ref a, y]) F hr I.env0 pass0' I (.cons rfl (.cons ry .nil)) (OkN.sp sx (Rps.two rd rd') o))) (fun w' s' hv => ?_) fun _ _ e => e))
        obtain ⟨z, H', I', rz, qz⟩ := hv
        have := SlX.cmpback (P := fun v s' => ∃ v', some v = some v' ∧ EP X pins σ Q v' s') rz ⟨w', rfl, z, H', I', rz, qz⟩
        cases w' <;> first | exact this.elim | exact wpAny_pure this
      · rw [if_neg hh] at o; exact o.elim
  | none =>
    simp only [q] at o
    cases q1 : d.tc bx with
    | none => simp only [q1] at o; exact o.elim
    | some t => cases q2 : d'.obj bx with
      | none => simp only [q1, q2] at o; exact o.elim
      | some t' =>
        obtain ⟨c', ns, ds⟩ := t'
        simp only [q1, q2] at o
        by_cases hh : t ∈ [0, 1, 2, 3, 4, 5] ∧ c' = c
        · rw [if_pos hh] at o
          obtain ⟨ht, rfl⟩ := hh
          obtain ⟨a, dx, vs, h1, h2, h3, h4⟩ := obj_at sx rd' q2
          subst h1
          obtain rfl : u = Value.ref a := ry
          obtain ⟨od, J⟩ := ins_inst I h2
          have htc : t ∈ codes cs := List.mem_append_left _ (by simp at ht ⊢; omega)
          obtain ⟨z1, z2, z3, z4⟩ := declines (A := X.A) (E := X.xe) I rx sx rd q1 ht J e.sb
          have hT : ∃ T, tcV CA t = .type T := by simp at ht; rcases ht with rfl | rfl | rfl | rfl | rfl | rfl <;> exact ⟨_, rfl⟩
          obtain ⟨T, hT⟩ := hT
          have tyx := KitX.looks I rx (tc_at hc sx rd q1 htc) (model X.prog X.w)
          rw [hT] at tyx
          refine DQ.rc_right hr.units0 I.kIn J tyx z3 (hT ▸ e.sb t ht) z1 ?_
          unfold tryCompare
          refine wpAny_bind (PySem.W.ifBound_K I.kIn J e.eq e.fn (wpAny_mono (wpAny_call (run_atS (us := [.ref a, v]) (ws := [.ref a, x]) F hr I.env0 pass0' I (.cons rfl (.cons rx .nil)) (OkN.sp sx (Rps.two rd' rd) o))) (fun w' s' hv => ?_) fun _ _ e => e))
          obtain ⟨z, H', I', rz, qz⟩ := hv
          have := SlX.cmpback (P := fun v s' => ∃ v', some v = some v' ∧ EP X pins σ Q v' s') rz ⟨w', rfl, z, H', I', rz, qz⟩
          cases w' <;> first | exact this.elim | exact wpAny_pure this
        · rw [if_neg hh] at o; exact o.elim
theorem op_neC (hc : ∀ c ∈ cs, KC X.K (CA c)) (e : EqC X.K CA cs (CA c) g) (F : FnR X.prog X.w X.K X.mg X.base (L2.CX X.prog X.w) k g (spR X.K CA mf)) (hr : Room (k + 1) X.A) : OpR X (compareOp .NotEq) (rN X.K CA (neC cs c mf)) := by
  intro pins s σ H x y v u Q I rx ry ⟨d, d', bx, FF, μ, sx, rd, rd', o⟩
  show wpAny _ _ (richCompare .NotEq v u) _ _ _
  have hr1 : Room k X.A.in1 := Room.in1 hr
  unfold neC at o
  cases q : d.obj bx with
  | some t =>
    obtain ⟨c', ns, ds⟩ := t
    simp only [q] at o
    cases q2 : d'.tc bx with
    | none => simp only [q2] at o; exact o.elim
    | some t =>
      simp only [q2] at o
      by_cases hh : c' = c ∧ t ∈ codes cs
      · rw [if_pos hh] at o
        obtain ⟨rfl, ht⟩ := hh
        obtain ⟨a, dx, vs, h1, h2, h3, h4⟩ := obj_at sx rd q
        subst h1
        obtain rfl : v = Value.ref a := rx
        obtain ⟨od, J⟩ := ins_inst I h2
        refine DQ.rc_left hr.units0 I.kIn J (KitX.looks I ry (tc_at hc sx rd' q2 ht) _) (e.nf t ht) ?_
        refine DQ.try_ne I.kIn J e.ne e.om e.eq e.fn hr1.units0 (wpAny_mono (wpAny_call (run_atS (us := [.ref a, u]) (ws := [.ref a, y]) F hr1 I.env0.in1 pass0' I (.cons rfl (.cons ry .nil)) (OkN.sp sx (Rps.two rd rd') (negO_ok o)))) (fun w' s' hv => ?_) fun _ _ e => e)
        obtain ⟨z, H', I', rz, k', ez, qz⟩ := hv
        subst ez
        exact ⟨k', rz, .bl (!k'), H', I', rfl, qz⟩
      · rw [if_neg hh] at o; exact o.elim
  | none =>
    simp only [q] at o
    cases q1 : d.tc bx with
    | none => simp only [q1] at o; exact o.elim
    | some t => cases q2 : d'.obj bx with
      | none => simp only [q1, q2] at o; exact o.elim
      | some t' =>
        obtain ⟨c', ns, ds⟩ := t'
        simp only [q1, q2] at o
        by_cases hh : t ∈ [0, 1, 2, 3, 4, 5] ∧ c' = c
        · rw [if_pos hh] at o
          obtain ⟨ht, rfl⟩ := hh
          obtain ⟨a, dx, vs, h1, h2, h3, h4⟩ := obj_at sx rd' q2
          subst h1
          obtain rfl : u = Value.ref a := ry
          obtain ⟨od, J⟩ := ins_inst I h2
          have htc : t ∈ codes cs := List.mem_append_left _ (by simp at ht ⊢; omega)
          obtain ⟨z1, z2, z3, z4⟩ := declines (A := X.A) (E := X.xe) I rx sx rd q1 ht J e.sb
          have hT : ∃ T, tcV CA t = .type T := by simp at ht; rcases ht with rfl | rfl | rfl | rfl | rfl | rfl <;> exact ⟨_, rfl⟩
          obtain ⟨T, hT⟩ := hT
          have tyx := KitX.looks I rx (tc_at hc sx rd q1 htc) (model X.prog X.w)
          rw [hT] at tyx
          refine DQ.rc_right hr.units0 I.kIn J tyx z4 (hT ▸ e.sb t ht) z2 ?_
          refine DQ.try_ne I.kIn J e.ne e.om e.eq e.fn hr1.units0 (wpAny_mono (wpAny_call (run_atS (us := [.ref a, v]) (ws := [.ref a, x]) F hr1 I.env0.in1 pass0' I (.cons rfl (.cons rx .nil)) (OkN.sp sx (Rps.two rd' rd) (negO_ok o)))) (fun w' s' hv => ?_) fun _ _ e => e)
          obtain ⟨z, H', I', rz, k', ez, qz⟩ := hv
          subst ez
          exact ⟨k', rz, .bl (!k'), H', I', rfl, qz⟩
        · rw [if_neg hh] at o; exact o.elim
theorem dop_eqC (hc : ∀ c ∈ cs, KC X.K (CA c)) (e : EqC X.K CA cs (CA c) g) (F : FnR X.prog X.w X.K X.mg X.base (L2.CX X.prog X.w) k g (spR X.K CA mf)) (hr : Room k X.A) : DOp X CA W (compareOp .Eq) (fun x y bx => noX (eqC cs c mf x y bx)) := dop_rN (op_eqC hc e F hr)
theorem dop_neC (hc : ∀ c ∈ cs, KC X.K (CA c)) (e : EqC X.K CA cs (CA c) g) (F : FnR X.prog X.w X.K X.mg X.base (L2.CX X.prog X.w) k g (spR X.K CA mf)) (hr : Room (k + 1) X.A) : DOp X CA W (compareOp .NotEq) (fun x y bx => noX (neC cs c mf x y bx)) := dop_rN (op_neC hc e F hr)
/-! ### binary operators, in, bool -/
def binC (c : Nat) (mf : MF) : D → D → List D → Out R := fun x y bx => match x.obj bx, y.obj bx with
  | some (c1, _, _), some (c2, _, _) => if c1 = c ∧ c2 = c then mf [x, y] bx else .stk
  | _, _ => .stk
theorem dop_binC {op : Operator} (hs : PySem.W.selfFirst X.K (CA c) = true) (hf : PySem.W.findIn X.K (.ref (CA c)) (PySem.dunder op.info.2) = some (some (.ref g))) (fn : PySem.W.isFn X.K (.ref g) = true) (F : FnR X.prog X.w X.K X.mg X.base (L2.CX X.prog X.w) k g (spR X.K CA mf)) (hr : Room k X.A) :
    DOp X CA W (binaryOp op) (fun x y bx => noX (binC c mf x y bx)) := by
  refine dop_rN ?_
  intro pins s σ H x y v u Q I rx ry ⟨d, d', bx, FF, μ, sx, rd, rd', o⟩
  unfold binC at o
  cases q : d.obj bx with
  | none => simp only [q] at o; exact o.elim
  | some t =>
    obtain ⟨c1, ns, ds⟩ := t
    cases q2 : d'.obj bx with
    | none => simp only [q, q2] at o; exact o.elim
    | some t =>
      obtain ⟨c2, ns2, ds2⟩ := t
      simp only [q, q2] at o
      by_cases hh : c1 = c ∧ c2 = c
      · rw [if_pos hh] at o
        obtain ⟨rfl, rfl⟩ := hh
        obtain ⟨a, dx, vs, h1, h2, _⟩ := obj_at sx rd q
        obtain ⟨b, dy, ws, h1', h2', _⟩ := obj_at sx rd' q2
        subst h1 h1'
        obtain rfl : v = Value.ref a := rx
        obtain rfl : u = Value.ref b := ry
        obtain ⟨od, J⟩ := ins_inst I h2
        obtain ⟨od', J'⟩ := ins_inst I h2'
        obtain ⟨m, hF⟩ := I.fr
        refine PySem.W.binop_K hF I.ok.mod.kin J J'.type hs hf fn (wpAny_mono (wpAny_call (run_atS (us := [.ref a, .ref b]) (ws := [.ref a, .ref b]) F hr I.env0 pass0' I (.cons rfl (.cons rfl .nil)) (OkN.sp sx (Rps.two rd rd') o))) (fun w' s' hv => ?_) fun _ _ e => e)
        obtain ⟨z, H', I', rz, qz⟩ := hv
        exact SlX.cmpback rz ⟨z, H', I', rz, qz⟩
      · rw [if_neg hh] at o; exact o.elim
def posO (o : Out R) : Out R := o.bind fun r b => match r with
  | .val (.bl k) => OK (.bl k) b
  | _ => .stk
theorem posO_ok {F : Addr → Prop} {μ : List Addr} {H : Hp} {o : Out R} {Q : VK} (h : OkN X.K CA F μ H (posO o) Q) : OkN X.K CA F μ H o (fun z H' => ∃ k, z = .bl k ∧ Q (.bl k) H') := by
  unfold OkN at *
  cases o with
  | stk => exact h
  | exn c ns ds b => exact h
  | ok r b =>
    cases r with
    | new d => exact h.elim
    | val d => cases d with
      | bl k => exact fun v F' H' e s rr => ⟨k, rr, h (.bl k) F' H' e s rfl⟩
      | _ => exact h.elim
def inC (c : Nat) (mf : MF) (f : Out R → Out R) : D → D → List D → Out R := fun x y bx => match y.obj bx with
  | some (c1, _, _) => if c1 = c then f (mf [y, x] bx) else .stk
  | none => .stk
theorem dop_inC (hf : PySem.W.findIn X.K (.ref (CA c)) "__contains__" = some (some (.ref g))) (fn : PySem.W.isFn X.K (.ref g) = true) (F : FnR X.prog X.w X.K X.mg X.base (L2.CX X.prog X.w) k g (spR X.K CA mf)) (hr : Room k X.A) :
    DOp X CA W (compareOp .In) (fun x y bx => noX (inC c mf posO x y bx)) := by
  refine dop_rN ?_
  intro pins s σ H x y v u Q I rx ry ⟨d, d', bx, FF, μ, sx, rd, rd', o⟩
  unfold inC at o
  cases q2 : d'.obj bx with
  | none => simp only [q2] at o; exact o.elim
  | some t =>
    obtain ⟨c2, ns2, ds2⟩ := t
    simp only [q2] at o
    by_cases hh : c2 = c
    · rw [if_pos hh] at o
      subst hh
      obtain ⟨b, dy, ws, h1', h2', _⟩ := obj_at sx rd' q2
      subst h1'
      obtain rfl : u = Value.ref b := ry
      obtain ⟨od', J'⟩ := ins_inst I h2'
      obtain ⟨m, hF⟩ := I.fr
      refine PySem.W.in_K hF I.ok.mod.kin J' hf fn (wpAny_mono (wpAny_call (run_atS (us := [.ref b, v]) (ws := [.ref b, x]) F hr I.env0 pass0' I (.cons rfl (.cons rx .nil)) (OkN.sp sx (Rps.two rd' rd) (posO_ok o)))) (fun w' s' hv => ?_) fun _ _ e => e)
      obtain ⟨z, H', I', rz, k', ez, qz⟩ := hv
      subst ez
      cases rz
      exact wpAny_truthy_bool ⟨.bl k', H', I', rfl, qz⟩
    · rw [if_neg hh] at o; exact o.elim
theorem dop_notInC (hf : PySem.W.findIn X.K (.ref (CA c)) "__contains__" = some (some (.ref g))) (fn : PySem.W.isFn X.K (.ref g) = true) (F : FnR X.prog X.w X.K X.mg X.base (L2.CX X.prog X.w) k g (spR X.K CA mf)) (hr : Room k X.A) :
    DOp X CA W (compareOp .NotIn) (fun x y bx => noX (inC c mf negO x y bx)) := by
  refine dop_rN ?_
  intro pins s σ H x y v u Q I rx ry ⟨d, d', bx, FF, μ, sx, rd, rd', o⟩
  unfold inC at o
  cases q2 : d'.obj bx with
  | none => simp only [q2] at o; exact o.elim
  | some t =>
    obtain ⟨c2, ns2, ds2⟩ := t
    simp only [q2] at o
    by_cases hh : c2 = c
    · rw [if_pos hh] at o
      subst hh
      obtain ⟨b, dy, ws, h1', h2', _⟩ := obj_at sx rd' q2
      subst h1'
      obtain rfl : u = Value.ref b := ry
      obtain ⟨od', J'⟩ := ins_inst I h2'
      obtain ⟨m, hF⟩ := I.fr
      refine PySem.W.notIn_K hF I.ok.mod.kin J' hf fn (wpAny_mono (wpAny_call (run_atS (us := [.ref b, v]) (ws := [.ref b, x]) F hr I.env0 pass0' I (.cons rfl (.cons rx .nil)) (OkN.sp sx (Rps.two rd' rd) (negO_ok o)))) (fun w' s' hv => ?_) fun _ _ e => e)
      obtain ⟨z, H', I', rz, k', ez, qz⟩ := hv
      subst ez
      cases rz
      exact wpAny_truthy_bool ⟨.bl (!k'), H', I', rfl, qz⟩
    · rw [if_neg hh] at o; exact o.elim
/-- bool(x), x of the class c -/
def boolC (c : Nat) (mf : MF) : D → List D → Out R := fun x bx => match x.obj bx with
  | some (c1, _, _) => if c1 = c then posO (mf [x] bx) else .stk
  | none => .stk
theorem dc_boolC (hf : PySem.W.findIn X.K (.ref (CA c)) "__bool__" = some (some (.ref g))) (fn : PySem.W.isFn X.K (.ref g) = true) (F : FnR X.prog X.w X.K X.mg X.base (L2.CX X.prog X.w) k g (spR X.K CA mf)) (hr : Room (k + 2) X.A) :
    DCall X CA W (.type "bool") (un1 fun x bx => noX (boolC c mf x bx)) := by
  refine dc1 (r := fun vs H Q => ∃ v d bx FF μ, vs = [v] ∧ Sx X.K CA FF μ H bx ∧ Rp X.K CA FF μ H d v ∧ OkN X.K CA FF μ H (boolC c mf d bx) Q) ?_ fun d v bx F μ σ H Q s r o => ⟨v, d, bx, F, μ, rfl, s, r, OkN.of o⟩
  intro pins s σ H xs us Q I rs ⟨v, d, bx, FF, μ, ev, sx, rd, o⟩
  subst ev
  obtain ⟨u, rfl, ru⟩ := rs.one
  unfold boolC at o
  cases q : d.obj bx with
  | none => simp only [q] at o; exact o.elim
  | some t =>
    obtain ⟨c1, ns, ds⟩ := t
    simp only [q] at o
    by_cases hh : c1 = c
    · rw [if_pos hh] at o
      subst hh
      obtain ⟨a, dx, vs, h1, h2, _⟩ := obj_at sx rd q
      subst h1
      obtain rfl : u = Value.ref a := ru
      obtain ⟨od, J⟩ := ins_inst I h2
      have hr2 : Room k X.A.in1.in1 := (show Room (k + 1) X.A.in1 from Room.in1 hr).in1
      refine DQ.bool_own I.kIn J hf fn (wpAny_mono (wpAny_call (run_atS (us := [.ref a]) (ws := [.ref a]) F hr2 I.env0.in1.in1 pass0' I (.cons rfl .nil) (OkN.sp sx (Rps.one rd) (posO_ok o)))) (fun w' s' hv => ?_) fun _ _ e => e)
      obtain ⟨z, H', I', rz, k', ez, qz⟩ := hv
      subst ez
      exact ⟨k', rz, .bl k', H', I', rz, qz⟩
    · rw [if_neg hh] at o; exact o.elim
end
end DL

set_option Elab.async false
set_option linter.all false
set_option maxRecDepth 100000
set_option maxHeartbeats 4000000
/-! DL12: sorted by a written key, over lists and tuples: the kit's level. -/
namespace DQ
open PySem PySem.W PySem.Calls PyProof.Rows
section
variable {prog : Program} {w : World} {A : Around} {E : Value → Shared → Prop} {s : Shared} {vs : List Value}
/-- a list or a tuple -/
def SeqAt (h : Heap) (l : Addr) (vs : List Value) : Prop := ∃ o n, h.get? l = some o ∧ (o.cls = .type "list" ∨ o.cls = .type "tuple") ∧ o.data = .seq vs.toArray n
theorem collect_seq {l : Addr} {Q : List Value → Shared → Prop} (q : SeqAt s.heap l vs) (hsz : vs.length ≤ sizeLine)
    (h : Q vs { s with heap := (s.heap.push (seqObj "list" #[] 0)).update s.heap.objs.size (Obj.mapSeq (· ++ vs.toArray)) }) : wpAny (model prog w) A (collect (.ref l)) Q E s := by
  obtain ⟨o, n, ho, hc, hd⟩ := q
  unfold collect
  have new0 : (s.heap.push (seqObj "list" #[] 0)).get? s.heap.objs.size = some (seqObj "list" #[] 0) := Heap.get?_push_size _ rfl
  have old : (s.heap.push (seqObj "list" #[] 0)).get? l = some o := Heap.get?_push_of_some _ ho
  have fin : wpAny (model prog w) A (do
      let o ← load s.heap.objs.size
      match o.data with
      | .seq xs _ => pure xs.toList
      | _ => unsupported "internal:collect") Q E
        { s with heap := (s.heap.push (seqObj "list" #[] 0)).update s.heap.objs.size (Obj.mapSeq (· ++ vs.toArray)) } := by
    refine wpAny_bind (wpAny_load (get?_update_seq new0 _) ?_)
    show wpAny _ _ (pure ((#[] : Array Value) ++ vs.toArray).toList) Q E _
    have e : ((#[] : Array Value) ++ vs.toArray).toList = vs := by simp
    rw [e]
    exact wpAny_pure h
  refine wpAny_bind (wpAny_runValue (codeAny_builtin entry_proto_collect' ?_))
  show wpAny _ _ (do again (.builtin "list.__iadd__" ⟨[← newList [], .ref l], []⟩)) _ _ s
  refine wpAny_bind (wpAny_newList (wpAny_pure ⟨Code.quiet_builtin _ (by decide +kernel), codeAny_builtin entry_list_iadd' ?_⟩))
  show wpAny _ _ (Builtin.List.listExtendWith (.ref s.heap.objs.size) (.ref l) (.ref s.heap.objs.size)) _ _
    { s with heap := s.heap.push (seqObj "list" #[] 0) }
  unfold Builtin.List.listExtendWith
  have tail : ∀ {P : PySem.Fin → Shared → Prop} {E' : Value → Shared → Prop}, P (.done (.ret (.ref s.heap.objs.size))) { s with heap := (s.heap.push (seqObj "list" #[] 0)).update s.heap.objs.size (Obj.mapSeq (· ++ vs.toArray)) } →
      wpAny (model prog w) A.in1 (do
        let xs ← Builtin.List.listItems (.ref l)
        let mine ← Builtin.List.listItems (.ref s.heap.objs.size)
        if !mine.isEmpty && Builtin.List.listTooLong (mine.size + xs.size) then unsupported "list.extend:memory"
        Builtin.List.listUpdate (.ref s.heap.objs.size) (· ++ xs)
        return ← ret (.ref s.heap.objs.size)) P E' { s with heap := s.heap.push (seqObj "list" #[] 0) } := by
    intro P E' hP
    refine wpAny_bind (listItems_at old hd ?_)
    refine wpAny_bind (listItems_at new0 rfl ?_)
    rw [if_neg (by simp)]
    refine wpAny_bind (listUpdate_at new0 rfl ?_ (Nat.zero_le _) ?_)
    · exact wpAny_pure hP
    · have e : ((#[] : Array Value) ++ vs.toArray).size = vs.length := by simp
      rw [e]
      exact Nat.le_succ_of_le hsz
  rcases hc with hc | hc
  · refine wpAny_bind (wpAny_typeOf (T := "list") ⟨o, old, hc⟩ ?_)
    have ht : (Value.type "list" == Value.type "list") = true := by rfl
    rw [if_pos (by rw [ht]; simp)]
    exact tail fin
  · refine wpAny_bind (wpAny_typeOf (T := "tuple") ⟨o, old, hc⟩ ?_)
    have ht : (Value.type "tuple" == Value.type "tuple") = true := by rfl
    rw [if_pos (by rw [ht]; simp)]
    exact tail fin
/-- sorted(xs, key=f), xs a list or a tuple; f keeps what is there and gives data -/
theorem sorted_seq_key {β : Type} {bs : List β} {R : Value → β → Prop} {l : Addr} {f : Addr} {Q : Value → Shared → Prop} (k : β → PyData) (q : SeqAt s.heap l vs) (e : EachIs R vs bs)
    (hal : AllAlike (bs.map k)) (hk : Sortable (bs.map k)) (hL : bs.length ≤ sizeLine) (hu : ∀ x, x ∈ bs → A.units + 2 + (k x).depth < cLine)
    (turn : ∀ (v : Value) (x : β), R v x → ∀ (g : Heap) (tk : Nat), (∀ b o, s.heap.get? b = some o → g.get? b = some o) →
      wpAny (model prog w) A.in1.in1 (call (.ref f) [v]) (KeyPure (k x) { s with heap := g, toks := tk }) (fun _ _ => False) { s with heap := g, toks := tk })
    (h : ∀ out c g tk, (∀ b o, s.heap.get? b = some o → g.get? b = some o) → g.get? (s.heap.objs.size + 1) = some (seqObj "list" (List.toArray out) c) → EachIs R out (bs.mergeSort (dataLe false k)) →
      Q (.ref (s.heap.objs.size + 1)) { s with heap := g, toks := tk }) :
    wpAny (model prog w) A (call (.builtin "sorted") [.ref l] [(Str.ofString "key", .ref f)]) Q E s := by
  have hL' : vs.length ≤ sizeLine := by rw [e.length]; exact hL
  have up : ∀ {g : Heap}, KeepsBut (s.heap.objs.size + 1) (copyHeap s.heap vs) g → ∀ b o, s.heap.get? b = some o → g.get? b = some o := fun {g} kp b o z => by
    have n : b ≠ s.heap.objs.size + 1 := Nat.ne_of_lt (Nat.lt_succ_of_lt (Heap.lt_size z))
    exact kp b o n (copyHeap_old z)
  have ll : (bs.map k).length = vs.length := by simp [e.length]
  refine call_function_entry_kw kind_sorted plain_sorted entry_sorted (ksk_s1 _ _) ?_
  unfold Builtin.«sorted»
  refine wpAny_bind (m := checkCount "sorted" 1 1 _) (wpAny_pure ?_)
  refine wpAny_bind (collect_seq q hL' ?_)
  refine wpAny_bind (wpAny_newList ?_ hL')
  have z1 : ((s.heap.push (seqObj "list" #[] 0)).update s.heap.objs.size (Obj.mapSeq (· ++ vs.toArray))).objs.size = s.heap.objs.size + 1 := by simp [Heap.size_update, size_push']
  show wpAny _ _ _ _ _ { s with heap := copyHeap s.heap vs }
  rw [z1]
  refine wpAny_bind (wpAny_holding (wpAny_call_entry_kw slot_list_sort ⟨_, copyHeap_at s.heap vs, rfl⟩ entry_list_sort ?_ (ksk_l1 _ _)))
  show wpAny (model prog w) A.in1.in1 (Builtin.«list.sort» ⟨[.ref (s.heap.objs.size + 1)], [(Str.ofString "key", .ref f)]⟩) _ _ _
  rw [ksk_t1]
  refine keyH_tree (s := { s with heap := copyHeap s.heap vs }) (kz := bs.map k) (copyHeap_at s.heap vs) ll hL' hal hk (bound_map (A := A.in1.in1) hu)
    (keyH_turns (s := { s with heap := copyHeap s.heap vs }) e fun v x hR _ g tk kp => turn v x hR g tk (up kp)) fun g tk out c kp hD ko => ⟨.none, rfl, ?_⟩
  exact wpAny_pure ⟨_, rfl, h out c g tk (up kp) hD (keyedOut_each k ko e)⟩
end
/-! ### a lambda of one name, called -/
section
variable {prog : Program} {w : World} {A : Around} {s : Shared}
theorem lam_turn {f c' : Addr} {name qual x : Str} {params : Arguments} {body : Expr} {scope : Scope} {cl : List (Str × Addr)} {pm ctv v : Value} {k : PyData}
    (hof : s.heap.get? f = some (kla_obj name qual params body scope cl pm c' ctv)) (hcd : s.heap.CodeRec (.ref c') qual) (hnl : s.heap.NoLimit) (hroom : A.depth < recursionLimit)
    (hbind : bindArgs (kla_fn name qual params body scope cl pm (.ref c') ctv) ⟨[v], []⟩ = pure [(x, v)])
    (hx : scope.names.lookup x = some .local) (hco : scope.isCoroutine = false) (hgen : scope.isGenerator = false) (hk : scope.kind = .function) (hcell : ∀ y ∈ scope.names, y.2 ≠ .cell)
    (hbody : ∀ (L : Addr) (g : Heap) (tk : Nat), (∀ b o, s.heap.get? b = some o → g.get? b = some o) → g.Ns L (fun y => [(x, v)].reverse.lookup y) →
      wpAny (model prog w) (A.deeper (envX qual scope L f (.ref c') cl)) (eval body (envX qual scope L f (.ref c') cl)) (KeyPure k { s with heap := g, toks := tk }) (fun _ _ => False) { s with heap := g, toks := tk }) :
    wpAny (model prog w) A (call (.ref f) [v]) (KeyPure k s) (fun _ _ => False) s := by
  refine wpAny_call (kla_callFunE hroom hof rfl hco hgen rfl hcd ?_)
  rw [hbind]
  refine wpAny_pure (wpAny_newFunctionEnv hcell (fun y hy => ?_) (fun g hns hsb => ⟨hnl.fresh _ hsb, ?_⟩) hk)
  · obtain rfl : y = (x, v) := by simpa using hy
    exact hx
  · show codeAny _ _ (.expr body (envX qual scope s.heap.objs.size f (.ref c') cl)) _ _
    have kp : ∀ b o, s.heap.get? b = some o → g.get? b = some o := fun b o z => by
      have n : b ≠ s.heap.objs.size := Nat.ne_of_lt (Heap.lt_size z)
      exact hsb.extBut b o n (Heap.get?_push_of_some _ z)
    refine kla_codeExpr (wpAny_mono (hbody _ g _ kp hns) (fun u s' hq => ?_) fun _ _ z => z.elim)
    obtain ⟨g', tk', rfl, k', r⟩ := hq
    exact ⟨g', tk', rfl, fun b o z => k' b o (kp b o z), r⟩
end
end DQ
namespace DQ
open PySem PySem.W PySem.Calls PyProof.Rows
/-! ### the key (x[0] is not None, x[0] or 0) -/
/-- None or an int -/
def oi : Option Int → Value → Prop
  | none, v => v = .none
  | some i, v => ∃ t, v = .int i t
def lowKey (o : Option Int) : PyData := .tuple [.bool o.isSome, .int (o.getD 0)]
section
variable {prog : Program} {w : World} {A : Around} {s : Shared} {env : Env} {x : Str} {m : Str → Option Value} {t : Addr} {v0 v1 : Value} {E : Value → Shared → Prop}
theorem fst_item {p1 p2 p3 : Pos} {j : Nat} {Q : Value → Shared → Prop} (hk : env.scope.kind = .function) (hl : env.kindOf x = some .local) (hns : s.heap.Ns env.locals m) (hm : m x = some (.ref t)) (hd : (x == ("__debug__" : Str)) = false)
    (ht : IsTup s.heap t #[v0, v1]) (h : Q v0 { s with toks := s.toks + 1 }) :
    wpAny (model prog w) A (eval (.Subscript (.Name x p1) (.Constant (.int 0) j p2) p3) env) Q E s := by
  refine wpAny_Subscript_Constant_late (wpAny_Name (wpAny_loadName_local hk hl hns hm (wpAny_Constant_int ?_)) hd)
  exact ⟨"tuple", "tuple.__getitem__", slot_tuple_getitem.lookup, ht.typeIs, getItem_tuple (s := { s with toks := s.toks + 1 }) ht (by decide) (by decide) rfl rfl h⟩
theorem low_key {o : Option Int} {p1 p2 p3 p4 p5 p6 p7 p8 p9 pa pb : Pos} {j1 j2 j3 j4 kk : Nat} (hk : env.scope.kind = .function) (hl : env.kindOf x = some .local) (hns : s.heap.Ns env.locals m) (hm : m x = some (.ref t)) (hd : (x == ("__debug__" : Str)) = false)
    (ht : IsTup s.heap t #[v0, v1]) (ho : oi o v0) :
    wpAny (model prog w) A (eval (.Tuple [.Compare (.Subscript (.Name x p1) (.Constant (.int 0) j1 p2) p3) [.IsNot] [.Constant .none j2 p4] p5, .BoolOp .Or [.Subscript (.Name x p6) (.Constant (.int 0) j3 p7) p8, .Constant (.int 0) j4 p9] pa] kk pb) env)
      (KeyPure (lowKey o) s) (fun _ _ => False) s := by
  refine wpAny_Tuple (wpAny_items_cons (wpAny_Compare1 (fst_item hk hl hns hm hd ht (wpAny_Constant_none (isNot_none ?_)))))
  have fin : ∀ (u : Value) (tk : Nat), (∃ z, u = .int (o.getD 0) z) → ([Value.bool (!(v0 == .none)), u] : List Value).length ≤ sizeLine ∧
        KeyPure (lowKey o) s (.ref s.heap.objs.size) { s with heap := s.heap.push { cls := .type "tuple", data := .seq ([Value.bool (!(v0 == .none)), u] : List Value).toArray }, toks := tk } := by
    rintro _ tk ⟨z, rfl⟩
    refine ⟨by simp [sizeLine_eq], s.heap.push _, tk, rfl, fun b o q => Heap.get?_push_of_some _ q, ?_⟩
    refine .tuple (xs := [.bool o.isSome, .int (o.getD 0)]) (Heap.get?_push_size _ rfl) rfl rfl ?_
    have e : (!(v0 == .none)) = o.isSome := by
      cases o with
      | none => rw [show v0 = Value.none from ho]; rfl
      | some i => obtain ⟨z, hz⟩ := ho; rw [hz]; rfl
    rw [e]
    exact .cons (.bool _) (.cons (.int _ _) .nil)
  refine wpAny_items_cons (wpAny_Or2 (fst_item (s := { s with toks := s.toks + 1 }) hk hl hns hm hd ht ?_))
  cases o with
  | none =>
    have e : v0 = Value.none := ho
    rw [e] at fin ⊢
    refine truthy_none ?_
    rw [if_neg (by decide)]
    exact wpAny_Constant_int (wpAny_items_nil (fin _ _ ⟨_, rfl⟩))
  | some i =>
    obtain ⟨z, hz⟩ := ho
    rw [hz] at fin ⊢
    refine truthy_int ?_
    by_cases h : i = 0
    · subst h
      rw [if_neg (by decide)]
      exact wpAny_Constant_int (wpAny_items_nil (fin _ _ ⟨_, rfl⟩))
    · rw [if_pos (by simpa using h)]
      exact wpAny_items_nil (fin _ _ ⟨_, rfl⟩)
end
end DQ

set_option Elab.async false
set_option linter.all false
set_option maxRecDepth 100000
set_option maxHeartbeats 4000000
/-! DL13: sorted(xs, key=lambda x: (x[0] is not None, x[0] or 0)). -/
namespace DL
open PySem PySem.Spec L2
/-- the order of the keys -/
def lowLe : Option Int → Option Int → Bool
  | none, _ => true
  | some _, none => false
  | some i, some j => decide (i ≤ j)
theorem lowLe_data {β : Type} (k : β → Option Int) : PySem.W.dataLe false (fun b => DQ.lowKey (k b)) = fun p q => lowLe (k p) (k q) := by
  funext p q
  show (!PySem.W.dataLt (DQ.lowKey (k q)) (DQ.lowKey (k p))) = _
  have gen : ∀ (a b : Bool) (i j : Int), PySem.W.dataLt (.tuple [.bool a, .int i]) (.tuple [.bool b, .int j]) = if a = b then (if i = j then false else decide (i < j)) else PySem.W.dataLt (.bool a) (.bool b) := fun a b i j => by
    rw [PySem.W.dataLt_pair (by simp [PySem.W.alike]) (by simp [PySem.W.alike]), PySem.W.dataLt_int]
    cases a <;> cases b <;> simp [PyData.eqv]
  have ft : PySem.W.dataLt (.bool false) (.bool true) = true := by first | rfl | decide
  have tf : PySem.W.dataLt (.bool true) (.bool false) = false := by first | rfl | decide
  unfold DQ.lowKey
  rw [gen]
  cases k p with
  | none => cases k q <;> simp [lowLe, ft, tf]
  | some i =>
    cases k q with
    | none => simp [lowLe, ft, tf]
    | some j =>
      simp only [Option.isSome_some, if_true, Option.getD_some, lowLe]
      by_cases h : j = i
      · simp [h]
      · rw [if_neg h]
        by_cases h2 : j < i
        · have : ¬ i ≤ j := by omega
          simp [h2, this]
        · have : i ≤ j := by omega
          simp [h2, this]
/-- the value of a low end -/
def lowV : Option Int → V → Prop
  | none, v => v = .non
  | some i, v => v = .int i
def lowE (x : Str) (p1 p2 p3 p4 p5 p6 p7 p8 p9 pa pb : Pos) (j1 j2 j3 j4 kk : Nat) : Expr :=
  .Tuple [.Compare (.Subscript (.Name x p1) (.Constant (.int 0) j1 p2) p3) [.IsNot] [.Constant .none j2 p4] p5, .BoolOp .Or [.Subscript (.Name x p6) (.Constant (.int 0) j3 p7) p8, .Constant (.int 0) j4 p9] pa] kk pb
def kwLam (params : Arguments) (body : Expr) (scope : Scope) (lp kp : Pos) : List Keyword := [⟨some "key", .Lambda params body scope lp, kp⟩]
section
variable {X : Cx} {e : Expr} {te : TE} {p pos kp lp : Pos} {P c : Addr} {params : Arguments} {scope : Scope} {x : Str} {k : Nat} {T : List (Addr × Str)}
variable {p1 p2 p3 p4 p5 p6 p7 p8 p9 pa pb : Pos} {j1 j2 j3 j4 kk : Nat}
def sortPost (X : Cx) (T : List (Addr × Str)) (Q : VK) (v : V) (H1 : Hp) : Prop := LamX.Tabs T H1 ∧ ∀ H2, LamX.ExtN H1 H2 → LamX.Tabs T H2 → ∃ (a : Addr) (ks : List (V × Option Int)), v = .ref a ∧
  (SqL X.K H2 a (ks.map Prod.fst) ∨ SqT X.K H2 a (ks.map Prod.fst)) ∧ (∀ q ∈ ks, ∃ t y0 y1, q.1 = .ref t ∧ SqT X.K H2 t [y0, y1] ∧ lowV q.2 y0) ∧
  ∀ l, H2 l = none → Q (.ref l) (upd H2 l (.lst ((ks.mergeSort fun p q => lowLe p.2 q.2).map Prod.fst)))
def tSortLow (X : Cx) (T : List (Addr × Str)) (te : TE) : TE := fun σ H Q => te σ H (sortPost X T Q)
def sortPost1 (X : Cx) (T : List (Addr × Str)) (Q : VK) : List V → Hp → Prop
  | [v], H1 => sortPost X T Q v H1
  | _, _ => False
theorem vals_each {ks : List (V × Option Int)} {us : List Value} (r : Vals (ks.map Prod.fst) us) : PySem.W.EachIs (fun u (q : V × Option Int) => RelV q.1 u ∧ q ∈ ks) us ks := by
  have gen : ∀ (zs : List (V × Option Int)) (us : List Value), (∀ q ∈ zs, q ∈ ks) → Vals (zs.map Prod.fst) us → PySem.W.EachIs (fun u (q : V × Option Int) => RelV q.1 u ∧ q ∈ ks) us zs := by
    intro zs
    induction zs with
    | nil => intro us _ r; cases r; exact .nil
    | cons z zs ih =>
      intro us hm r
      cases r with
      | cons r1 r2 => exact .cons ⟨r1, hm z (List.mem_cons_self ..)⟩ (ih _ (fun q hq => hm q (List.mem_cons_of_mem _ hq)) r2)
  exact gen ks us (fun _ h => h) r
theorem each_vals {ks' : List (V × Option Int)} {P : V × Option Int → Prop} : ∀ {zs : List (V × Option Int)} {us : List Value}, PySem.W.EachIs (fun u (q : V × Option Int) => RelV q.1 u ∧ P q) us zs → Vals (zs.map Prod.fst) us
  | [], _, .nil => .nil
  | _ :: _, _, .cons h t => .cons h.1 (each_vals (ks' := ks') t)
theorem pe_sortLow (he : PE X e te) (hr : Room k X.A) (hg : Gl X "sorted") (hm : X.mg "sorted" = none) (TB : LamX.TabB X.base X.mg c P) (hcode : X.env.code = .ref c) (hT : (P, X.env.qual ++ "<lambda>") ∈ T)
    (hu : ∀ p ∈ T, p.1 = P → p.2 = X.env.qual ++ "<lambda>") (hdef : defaultsOf params X.env = ([], []))
    (hs : scope = { kind := .function, names := [(x, .local)], isGenerator := false, isCoroutine := false, more := [] }) (hd : (x == ("__debug__" : Str)) = false)
    (hbind : ∀ pm c' ctv v, bindArgs (PySem.W.kla_fn "<lambda>" (X.env.qual ++ "<lambda>") params (lowE x p1 p2 p3 p4 p5 p6 p7 p8 p9 pa pb j1 j2 j3 j4 kk) scope (cloFrom X.env.cells scope.names []) pm (.ref c') ctv) ⟨[v], []⟩ = pure [(x, v)])
    (h1 : starEach [e] X.env = (false, eval e X.env) :: starEach [] X.env := by rfl) (h2 : backTo pos (starEach [e] X.env) = (false, eval e X.env) :: backTo pos (starEach [] X.env) := by rfl)
    (h3 : (backTo pos (starEach [e] X.env)).any (·.1) = false := by rfl) :
    PE X (.Call (.Name "sorted" p) [e] (kwLam params (lowE x p1 p2 p3 p4 p5 p6 p7 p8 p9 pa pb j1 j2 j3 j4 kk) scope lp kp) pos) (tSortLow X T te) := by
  refine ⟨fun pins s σ H Q I h => ?_⟩
  have hfree : ∀ y ∈ scope.names, y.2 = .free → ∃ c, X.env.cells.lookup y.1 = some c := fun y hy z => by
    subst hs
    obtain rfl : y = (x, .local) := by simpa using hy
    cases z
  have ha : PA X [e] (tCons te tNil) := pa_cons he pa_nil h1
  refine wpAny_Call_Name_kw (ld_blt I hg hm (by rfl) ?_ (by decide) (by decide))
  refine PyProof.Rows.callWith_kw (thn (ha.run pos pins s σ H (sortPost1 X T Q) I h) fun us s1 ⟨vs, H1, I1, r1, q1⟩ => ?_) h2 h3
  obtain ⟨v, rfl⟩ : ∃ v, vs = [v] := by
    match vs, q1 with
    | [v], _ => exact ⟨v, rfl⟩
    | [], q | _ :: _ :: _, q => exact q.elim
  obtain ⟨tb1, hq⟩ := q1
  obtain ⟨u, rfl, ru⟩ := vals1 r1
  show wpAny _ _ (evalAll [(do let v ← eval (.Lambda params (lowE x p1 p2 p3 p4 p5 p6 p7 p8 p9 pa pb j1 j2 j3 j4 kk) scope lp) X.env; standAt pos; pure v)]) _ _ s1
  refine wpAny_evalAll_cons (wpAny_bind (LamX.lam_make2 I1 TB hcode hT hu tb1 hdef hfree fun f c' pm ctv H2 s2 I2 eN tb2 hof n1 n2 hc' => wpAny_bind (wpAny_standAt (wpAny_pure (wpAny_evalAll_nil ?_)))))
  obtain ⟨a, ks, rfl, hsq, hit, q⟩ := hq H2 eN tb2
  obtain rfl : u = Value.ref a := ru
  obtain ⟨⟨oc, ovs, ot, hoc, hdc, hvc⟩, _, _⟩ := I2.hok c' _ hc'
  obtain ⟨its, ri, hseq, hz⟩ : ∃ its : List Value, Vals (ks.map Prod.fst) its ∧ DQ.SeqAt s2.heap a its ∧ (ks.map Prod.fst).length ≤ sizeLine := by
    rcases hsq with hsq | hsq
    · obtain ⟨its, r', pl, hz⟩ := I2.list hsq
      obtain ⟨o, ho, hc, n, hd⟩ := pl.isList
      exact ⟨its, r', ⟨o, n, ho, .inl hc, hd⟩, hz⟩
    · obtain ⟨its, r', pl, hz⟩ := I2.tuple hsq
      obtain ⟨o, ho, hc, n, hd⟩ := pl
      exact ⟨its, r', ⟨o, n, ho, .inr hc, hd⟩, hz⟩
  show wpAny _ _ (call (.builtin "sorted") [.ref a] [(Str.ofString "key", .ref f)]) _ _ s2
  refine DQ.sorted_seq_key (fun q : V × Option Int => DQ.lowKey q.2) hseq (vals_each ri) (PySem.W.AllAlike.of fun b b' => ?_) (PySem.W.Sortable.tuples fun _ => ⟨_, _, rfl⟩) (by simpa using hz) (fun q _ => ?_) (fun v q hR g tk kg => ?_) fun out c0 g tk kg hD eo => ?_
  · simp [PySem.W.alike, PySem.W.alikeAll, DQ.lowKey]
  · have h1 : (DQ.lowKey q.2).depth = 1 := by simp [DQ.lowKey, PyData.depth, PyData.depthAll]
    have := hr.un
    omega
  · obtain ⟨rv, hm⟩ := hR
    obtain ⟨t, y0, y1, e1, st, lv⟩ := hit q hm
    rw [e1] at rv
    obtain rfl : v = Value.ref t := rv
    obtain ⟨its2, r2, ht, _⟩ := I2.tuple st
    obtain ⟨u0, u1, rfl, ra, rb⟩ := vals2 r2
    have ho : DQ.oi q.2 u0 := by
      cases hq2 : q.2 with
      | none =>
        rw [hq2] at lv
        have : y0 = .non := lv
        rw [this] at ra
        exact ra
      | some i =>
        rw [hq2] at lv
        have : y0 = .int i := lv
        rw [this] at ra
        exact ra
    subst hs
    refine DQ.lam_turn (s := { s2 with heap := g, toks := tk }) (x := x) (kg f _ hof) ⟨c', oc, ovs, ot, rfl, kg _ _ hoc, hdc, hvc⟩ (I2.nolimit.keeps kg) (by have := hr.dp; show X.A.depth < _; omega) (hbind pm c' ctv _) ?_ rfl rfl rfl (fun y hy => ?_) fun L g' tk' kg' hns => ?_
    · simp
    · obtain rfl : y = (x, .local) := by simpa using hy
      exact fun z => by cases z
    · refine DQ.low_key (s := { s2 with heap := g', toks := tk' }) (m := fun y => [(x, Value.ref t)].reverse.lookup y) rfl ?_ hns (by simp) hd ((ht.keeps kg).keeps kg') ho
      show List.lookup x [(x, NameKind.local)] = some .local
      simp
  · rw [lowLe_data (fun q : V × Option Int => q.2)] at eo
    have rv := each_vals (ks' := ks) eo
    refine ⟨.ref (s2.heap.objs.size + 1), _, I2.laid (o := .lst ((ks.mergeSort fun p q => lowLe p.2 q.2).map Prod.fst)) (t' := tk) kg (Nat.le_succ _) ⟨?_, out, c0, rv, hD⟩, rfl, q _ (I2.hok.fresh (Nat.le_succ _))⟩
    simpa using hz
end
end DL
namespace DL
open PySem PySem.Spec L2
def D.seq (d : D) (bx : List D) : Option (List D) := match d with
  | .tup ds => some ds
  | d => d.sL bx
def lowD : D → Option (Option Int)
  | .tup [.non, _] => some none
  | .tup [.int i, _] => some (some i)
  | _ => none
def dLow (d : D) : Option Int := (lowD d).getD none
def sortLow (ds : List D) : List D := ds.mergeSort fun p q => lowLe (dLow p) (dLow q)
def mSortLow (m : ME) : ME := fun ρ bx => (m ρ bx).bind fun r b => match r.d.seq b with
  | some ds => if (ds.all fun d => (lowD d).isSome) = true then .ok (.new (.lst (sortLow ds))) b else .stk
  | none => .stk
section
variable {K : PySem.W.Frag} {CA : Ly} {F : Addr → Prop} {μ : List Addr} {H H2 : Hp} {bx : List D}
theorem Ext.ofN (eN : LamX.ExtN H H2) : Ext F μ H F H2 := ⟨fun _ h => h, fun _ h => .inl h, fun a o h _ n => eN a o h n⟩
theorem Sx.extN (s : Sx K CA F μ H bx) (eN : LamX.ExtN H H2) (tb : LamX.Tabs CA.tb H2) : Sx K CA F μ H2 bx := by
  have st : Stay F H H2 := fun a o f h => eN a o h (s.ft a o f h)
  refine ⟨s.len, fun n d a h1 h2 => ?_, s.nd, s.dj, fun a f => ?_, fun a o f h => ?_, tb⟩
  · have z := s.at_ n d a h1 h2
    exact z.mono (fun _ h => h) (fun _ _ q => q) st fun o q => eN a o q (z.nt o q)
  · obtain ⟨o, h⟩ := s.tr a f
    exact ⟨o, st a o f h⟩
  · obtain ⟨o', h'⟩ := s.tr a f
    have := st a o' f h'
    rw [h] at this
    cases this
    exact s.ft a o f h'
theorem seq_at {d : D} {v : V} {ds : List D} (s : Sx K CA F μ H bx) (r : Rp K CA F μ H d v) (q : d.seq bx = some ds) : ∃ a vs, v = .ref a ∧ (SqL K H a vs ∨ SqT K H a vs) ∧ Rps K CA F μ H ds vs := by
  have gen : d.sL bx = some ds → ∃ a vs, v = .ref a ∧ (SqL K H a vs ∨ SqT K H a vs) ∧ Rps K CA F μ H ds vs := fun q => by
    obtain ⟨a, vs, h1, h2, h3⟩ := sL_at s r q
    exact ⟨a, vs, h1, .inl h2, h3⟩
  cases d with
  | tup es =>
    have : es = ds := by simpa [D.seq] using q
    subst this
    obtain ⟨a, vs, h1, h2, h3⟩ := r
    exact ⟨a, vs, h1, .inr h2.sq, h3⟩
  | _ => exact gen q
theorem lowD_at {d : D} {v : V} {o : Option Int} (r : Rp K CA F μ H d v) (q : lowD d = some o) : ∃ t y0 y1, v = .ref t ∧ SqT K H t [y0, y1] ∧ lowV o y0 := by
  unfold lowD at q
  split at q
  · cases q
    obtain ⟨a, vs, h1, h2, h3⟩ := r
    match vs, h3 with
    | [y0, y1], h3 => exact ⟨a, y0, y1, h1, h2.sq, h3.1⟩
    | [], h3 => exact h3.elim
    | [_], h3 => exact h3.2.elim
    | _ :: _ :: _ :: _, h3 => exact h3.2.2.elim
  · cases q
    obtain ⟨a, vs, h1, h2, h3⟩ := r
    match vs, h3 with
    | [y0, y1], h3 => exact ⟨a, y0, y1, h1, h2.sq, h3.1⟩
    | [], h3 => exact h3.elim
    | [_], h3 => exact h3.2.elim
    | _ :: _ :: _ :: _, h3 => exact h3.2.2.elim
  · cases q
theorem rps_pairs : ∀ {ds : List D} {vs : List V}, Rps K CA F μ H ds vs → (∀ z ∈ ds.zip vs, Rp K CA F μ H z.1 z.2)
  | [], [], _, z, h => by simp at h
  | d :: ds, v :: vs, r, z, h => by
    rcases List.mem_cons.mp (by simpa using h : z ∈ (d, v) :: ds.zip vs) with e | e
    · rw [e]; exact r.1
    · exact rps_pairs r.2 z e
  | [], _ :: _, r, _, _ => r.elim
  | _ :: _, [], r, _, _ => r.elim
theorem pairs_rps : ∀ {zs : List (D × V)}, (∀ z ∈ zs, Rp K CA F μ H z.1 z.2) → Rps K CA F μ H (zs.map Prod.fst) (zs.map Prod.snd)
  | [], _ => trivial
  | z :: zs, h => ⟨h z (List.mem_cons_self ..), pairs_rps fun y hy => h y (List.mem_cons_of_mem _ hy)⟩
end
section
variable {X : Cx} {CA : Ly} {W : WX} {e : Expr} {p pos kp lp : Pos} {P c : Addr} {params : Arguments} {scope : Scope} {x : Str} {k : Nat}
variable {p1 p2 p3 p4 p5 p6 p7 p8 p9 pa pb : Pos} {j1 j2 j3 j4 kk : Nat}
theorem se_sortLow {m : ME} (he : SE X CA W e m) (hr : Room k X.A) (hg : Gl X "sorted") (hm : X.mg "sorted" = none) (TB : LamX.TabB X.base X.mg c P) (hcode : X.env.code = .ref c) (hT : (P, X.env.qual ++ "<lambda>") ∈ CA.tb)
    (hu : ∀ p ∈ CA.tb, p.1 = P → p.2 = X.env.qual ++ "<lambda>") (hdef : defaultsOf params X.env = ([], []))
    (hs : scope = { kind := .function, names := [(x, .local)], isGenerator := false, isCoroutine := false, more := [] }) (hd : (x == ("__debug__" : Str)) = false)
    (hbind : ∀ pm c' ctv v, bindArgs (PySem.W.kla_fn "<lambda>" (X.env.qual ++ "<lambda>") params (lowE x p1 p2 p3 p4 p5 p6 p7 p8 p9 pa pb j1 j2 j3 j4 kk) scope (cloFrom X.env.cells scope.names []) pm (.ref c') ctv) ⟨[v], []⟩ = pure [(x, v)])
    (h1 : starEach [e] X.env = (false, eval e X.env) :: starEach [] X.env := by rfl) (h2 : backTo pos (starEach [e] X.env) = (false, eval e X.env) :: backTo pos (starEach [] X.env) := by rfl)
    (h3 : (backTo pos (starEach [e] X.env)).any (·.1) = false := by rfl) :
    SE X CA W (.Call (.Name "sorted" p) [e] (kwLam params (lowE x p1 p2 p3 p4 p5 p6 p7 p8 p9 pa pb j1 j2 j3 j4 kk) scope lp kp) pos) (mSortLow m) := by
  obtain ⟨te, t1, t2⟩ := he.dat
  refine ⟨tSortLow X CA.tb te, pe_sortLow t1 hr hg hm TB hcode hT hu hdef hs hd hbind h1 h2 h3, fun ρ bx F μ σ H Q s n o => t2 ρ bx F μ σ H _ s n ?_⟩
  unfold mSortLow at o
  cases q : m ρ bx with
  | stk => rw [q] at o; exact o.elim
  | exn c ns ds b => rw [q] at o; exact o
  | ok r b =>
    rw [q] at o
    intro v F1 H1 e1 s1 rv
    simp only [Out.bind_ok] at o
    cases q2 : r.d.seq b with
    | none => rw [q2] at o; exact o.elim
    | some ds =>
      simp only [q2] at o
      by_cases ha : (ds.all fun d => (lowD d).isSome) = true
      · rw [if_pos ha] at o
        refine ⟨s1.tb, fun H2 eN tb2 => ?_⟩
        have e2 : Ext F1 μ H1 F1 H2 := Ext.ofN eN
        have s2 := s1.extN eN tb2
        obtain ⟨a, vs, ev, hsq, rs⟩ := seq_at s2 (rv.ext s1 e2) q2
        have hl := rs.length
        have o2 := OkG.shiftR (e1.trans e2) o
        have rp := rps_pairs rs
        have mf : (ds.zip vs).map Prod.fst = ds := List.map_fst_zip (by omega)
        have ms : (ds.zip vs).map Prod.snd = vs := List.map_snd_zip (by omega)
        refine ⟨a, (ds.zip vs).map fun z => (z.2, dLow z.1), ev, ?_, fun y hy => ?_, ?_⟩
        · have : (List.map (fun z : D × V => (z.2, dLow z.1)) (ds.zip vs)).map Prod.fst = vs := by
            rw [List.map_map]; exact ms
          rw [this]; exact hsq
        · obtain ⟨z, hz, rfl⟩ := List.mem_map.mp hy
          have hd1 : z.1 ∈ ds := (List.of_mem_zip hz).1
          obtain ⟨o3, h3⟩ := Option.isSome_iff_exists.mp (List.all_eq_true.mp ha _ hd1)
          have : dLow z.1 = o3 := by unfold dLow; rw [h3]; rfl
          show ∃ t y0 y1, z.2 = .ref t ∧ SqT X.K H2 t [y0, y1] ∧ lowV (dLow z.1) y0
          rw [this]
          exact lowD_at (rp z hz) h3
        · let zs := (ds.zip vs).mergeSort fun y z => lowLe (dLow y.1) (dLow z.1)
          have a1 : zs.map Prod.fst = sortLow ds := by
            show ((ds.zip vs).mergeSort _).map Prod.fst = _
            rw [List.map_mergeSort (s := fun p q => lowLe (dLow p) (dLow q)) (fun _ _ _ _ => rfl), mf]; rfl
          have a2 : ((List.map (fun z : D × V => (z.2, dLow z.1)) (ds.zip vs)).mergeSort fun p q => lowLe p.2 q.2).map Prod.fst = zs.map Prod.snd := by
            rw [← List.map_mergeSort (f := fun z : D × V => (z.2, dLow z.1)) (r := fun y z : D × V => lowLe (dLow y.1) (dLow z.1)) (s := fun p q : V × Option Int => lowLe p.2 q.2) (fun _ _ _ _ => rfl), List.map_map]
            rfl
          rw [a2]
          rw [← a1] at o2
          exact okL o2 s2 (pairs_rps fun z hz => rp z ((List.mergeSort_perm _ _).mem_iff.mp hz))
      · rw [if_neg ha] at o; exact o.elim
end
end DL

set_option Elab.async false
set_option linter.all false
set_option maxRecDepth 100000
set_option maxHeartbeats 4000000
/-! DL14: lists that are boxes walked, conditions of comprehensions, types as values. -/
namespace DL
open PySem PySem.Spec L2
section
variable {X : Cx} {CA : Ly} {W : WX} {tg iter c e : Expr} {pos : Pos} {sts : List Stmt}
/-! ### for x in a box -/
def loopB (g : D → Sl → Option Sl) (m : MS) (n : Nat) : Nat → Nat → Sl → List D → OutS
  | 0, _, _, _ => .stk
  | k + 1, i, ρ, b => match b[n]? with
    | some (.lst xs) => (match xs[i]? with
      | none => .nx ρ b
      | some d => (match g d ρ with
        | none => .stk
        | some ρ' => (match m ρ' b with
          | .nx ρ2 b2 => loopB g m n k (i + 1) ρ2 b2
          | .ct ρ2 b2 => loopB g m n k (i + 1) ρ2 b2
          | .bk ρ2 b2 => .nx ρ2 b2
          | o => o)))
    | _ => .stk
def mForB (k : Nat) (mi : ME) (g : D → Sl → Option Sl) (m : MS) : MS := fun ρ bx => liftE (mi ρ bx) ρ fun r b => match r.d with
  | .box n => loopB g m n k 0 ρ b
  | _ => .stk
theorem loopB_ok {g : D → Sl → Option Sl} {m : MS} {tgr : TG} {tb : TS} {D : Ends} {n k : Nat} {a : Addr} {F1 : Addr → Prop} {μ1 : List Addr} {H1 : Hp} {b : List DL.D}
    {is : List Nat} (hg : ∀ d v ρ bx F μ σ H Q, Sx X.K CA F μ H bx → En X.K CA F μ H ρ σ → Rp X.K CA F μ H d v → (∃ ρ', g d ρ = some ρ' ∧ ∀ σ', En X.K CA F μ H ρ' σ' → Agr is σ σ' → Q σ' H) → tgr v σ H Q)
    (hb : ∀ ρ bx F μ σ H D, Sx X.K CA F μ H bx → En X.K CA F μ H ρ σ → OkS X.K CA W F μ H D (m ρ bx) → tb D σ H)
    (s1 : Sx X.K CA F1 μ1 H1 b) (ha : μ1[n]? = some a) {ρ : Sl} {σ : L2.St} (n1 : En X.K CA F1 μ1 H1 ρ σ) (o : OkS X.K CA W F1 μ1 H1 D (loopB g m n k 0 ρ b)) :
    ∃ Wi : Nat → Nat → L2.St → Hp → Prop, (∃ m, Wi 0 m σ H1) ∧ ∀ i m σ H, Wi i m σ H →
      ((Itl X.K a).stop i H ∧ D.nx σ H) ∨ ((Itl X.K a).go i H ∧ ∃ N : L2.St → Hp → Prop, (∀ σ' H', N σ' H' → ∃ m', m' < m ∧ Wi (i + 1) m' σ' H') ∧ ∀ x H', (Itl X.K a).yld i H x H' → tgr x σ H' fun σ2 H2 => tb { D with nx := N, ct := N, bk := D.nx } σ2 H2) := by
  let P : Nat → Nat → L2.St → Hp → Prop := fun i k' σ' H' => ∃ ρ' bx' F' μ', ExtM F1 μ1 H1 F' μ' H' ∧ Sx X.K CA F' μ' H' bx' ∧ En X.K CA F' μ' H' ρ' σ' ∧ OkS X.K CA W F' μ' H' D (loopB g m n k' i ρ' bx')
  refine ⟨fun i k' σ' H' => P i k' σ' H', ⟨k, ρ, b, F1, μ1, ExtM.refl, s1, n1, o⟩, ?_⟩
  rintro i k' σ2 H2 ⟨ρ2, bx2, F2, μ2, e2, s2, n2, o2⟩
  cases k' with
  | zero => exact o2.elim
  | succ k' =>
    unfold loopB at o2
    have ha2 := e2.get n a ha
    cases q : bx2[n]? with
    | none => rw [q] at o2; exact o2.elim
    | some d0 =>
      rw [q] at o2
      cases d0 with
      | lst xs =>
        obtain ⟨vs, hv, rv⟩ := s2.at_ n _ a q ha2
        have sq : SqL X.K H2 a vs := .inl (.inl hv)
        cases q2 : xs[i]? with
        | none =>
          simp only [q2] at o2
          have hi : vs.length ≤ i := by rw [← rv.length]; exact List.getElem?_eq_none_iff.mp q2
          exact .inl ⟨⟨vs, sq, hi⟩, o2 σ2 F2 μ2 H2 ExtM.refl s2 n2⟩
        | some d =>
          simp only [q2] at o2
          obtain ⟨v, v1, v2⟩ := rv.get q2
          refine .inr ⟨⟨vs, v, sq, v1⟩, P (i + 1) k', fun σ' H' p => ⟨k', Nat.lt_succ_self _, p⟩, fun x H3 y => ?_⟩
          obtain ⟨rfl, y2⟩ := y
          have := y2 vs sq
          rw [v1] at this; cases this
          cases q3 : g d ρ2 with
          | none => simp only [q3] at o2; exact o2.elim
          | some ρ3 =>
            simp only [q3] at o2
            refine hg d v ρ2 bx2 F2 μ2 σ2 _ _ s2 n2 v2 ⟨ρ3, q3, fun σ4 n4 _ => hb ρ3 bx2 F2 μ2 σ4 _ _ s2 n4 ?_⟩
            have fin : ∀ {ρ' : Sl} {b' : List DL.D}, OkS X.K CA W F2 μ2 H3 D (loopB g m n k' (i + 1) ρ' b') → ∀ σ' F' μ' H', ExtM F2 μ2 H3 F' μ' H' → Sx X.K CA F' μ' H' b' → En X.K CA F' μ' H' ρ' σ' → P (i + 1) k' σ' H' :=
              fun {ρ' b'} o4 σ' F' μ' H' e' s' n' => ⟨ρ', b', F', μ', e2.trans s2 e', s', n', OkS.shift e' s' o4⟩
            cases q4 : m ρ3 bx2 with
            | nx ρ' b' => simp only [q4] at o2; exact fin o2
            | ct ρ' b' => simp only [q4] at o2; exact fin o2
            | bk ρ' b' => simp only [q4] at o2; exact o2
            | rt r b' => simp only [q4] at o2; exact o2
            | exn c ns ds ρ' b' => simp only [q4] at o2; exact o2
            | stk => simp only [q4] at o2; exact o2
      | _ => exact o2.elim
theorem ss_forB (k : Nat) {is : List Nat} {mi : ME} {g : D → Sl → Option Sl} {m : MS} (hF : Frm X W) (hi : SE X CA W iter mi) (hg : SG X CA tg is g) (hb : SB X CA W sts m) (hs : ∀ x, foldedSetIterable iter X.env x = pure x := by intro _; rfl) : SS X CA W (.For tg iter sts [] pos) (mForB k mi g m) := by
  obtain ⟨te, t1, t2⟩ := hi.dat
  obtain ⟨tg', g1, g2⟩ := hg.ex
  obtain ⟨tb, b1, b2⟩ := hb.ex
  refine ⟨_, ps_for hF.po hF.calm (pi_list t1) g1 b1 hs, fun ρ bx F μ σ H D s n o => t2 ρ bx F μ σ H _ s n ?_⟩
  have o' : OkS X.K CA W F μ H D (liftE ((mi ρ bx).map R.d) ρ fun d b => match d with | .box n => loopB g m n k 0 ρ b | _ => .stk) := by rw [liftE_map]; exact o
  refine OkS.seqE s n o' fun d b v F1 H1 e1 s1 rr o1 => ?_
  cases d with
  | box j =>
    obtain ⟨a, rfl, ha⟩ := rr
    have hx : ∃ xs, SqL X.K H1 a xs := by
      cases q : b[j]? with
      | none =>
        have h1 := (List.getElem?_eq_some_iff.mp ha).1
        have h2 := List.getElem?_eq_none_iff.mp q
        rw [s1.len] at h2; omega
      | some d0 =>
        cases k with
        | zero => exact o1.elim
        | succ k =>
          have o3 : OkS X.K CA W F μ H D (loopB g m j (k + 1) 0 ρ b) := o1
          unfold loopB at o3
          rw [q] at o3
          cases d0 with
          | lst xs =>
            obtain ⟨vs, hv, _⟩ := s1.at_ j _ a q ha
            exact ⟨vs, .inl (.inl hv)⟩
          | _ => exact o3.elim
    exact ⟨a, rfl, hx, loopB_ok g2 b2 s1 ha (n.ext s e1) (OkS.shift e1.m s1 o1)⟩
  | _ => exact o1.elim
/-! ### conditions -/
def mYes : MB := fun _ bx => .ok true bx
theorem PTs.weak {ifs : List Expr} {t t' : TT} (h : PTs X ifs t) (k : ∀ σ H Q, t' σ H Q → t σ H Q) : PTs X ifs t' := ⟨fun pins s σ H Q I q => h.run pins s σ H Q I (k σ H Q q)⟩
theorem pts_no : PTs X [] (tMB X.K CA W mYes) := PTs.weak pts_nil fun σ H Q ⟨ρ, bx, F, μ, s, n, o⟩ => o true F H Ext.refl s rfl
theorem pts_if {m : MB} (h : ST X CA W c m) : PTs X [c] (tMB X.K CA W m) := by
  obtain ⟨t, t1, t2⟩ := h.ex
  exact PTs.weak (pts_one t1) fun σ H Q ⟨ρ, bx, F, μ, s, n, o⟩ => t2 ρ bx F μ σ H Q s n o
/-! ### a built-in type's name -/
theorem se_ty {x : Str} {T : String} (hg : Gl X x) (hm : X.mg x = none) (hv : bootBuiltins x = some (.type T)) (hn : x ≠ "__name__" := by decide) (hd : (x == ("__debug__" : Str)) = false := by decide) : SE X CA W (.Name x pos) (mC (.ty T)) :=
  se_c (v := .ty T) (pe_bltn hg hm hv rfl hn hd) fun _ _ _ => rfl
end
end DL
namespace DL
open PySem PySem.Spec L2
theorem takes0 {X : Cx} : Takes X W0 := fun u s' ⟨a, B, sI, pins, σ, H, cls, d, e, I, nb, up, sky, na, os, ag, w⟩ => w.elim
theorem _root_.L2.Room.u64 {k : Nat} {A : Around} (r : Room k A) : A.units + 64 < cLine := by have := r.un; omega
theorem SW.st' {X : Cx} {CA : Ly} {W : WX} {e : Expr} {m : MB} (h : SW X CA W e m) : ST X CA W e m := let ⟨t, h1, h2⟩ := h.ex; ⟨t, h1.pt, h2⟩
end DL

set_option Elab.async false
set_option linter.all false
set_option maxRecDepth 100000
set_option maxHeartbeats 4000000
/-! DL15: enumerate over a tuple, dict displays. -/
namespace DQ
open PySem
open Sem (wp)
/-- the enumerate object over an iterator at p -/
abbrev enO (p : Addr) : Obj := { cls := .type "enumerate", data := .fields #[.none, .bool false, .ref p, rawInt 0, .none, .none] }
abbrev tiO (l : Addr) : Obj := { cls := .type "tuple_iterator", data := .fields #[.ref l, .int 0 0] }
theorem meets_enumT (l : Addr) (items : Array Value) :
    Meets (Builtin.«enumerate.__new__» ⟨[.type "enumerate", .ref l], []⟩) (fun _ R s => s.heap.IsTuple l items ∧
      R (.ok (.ret (.ref (s.heap.push (tiO l)).objs.size))) { s with heap := (s.heap.push (tiO l)).push (enO s.heap.objs.size) }) :=
  .of_wp fun prog w A R s h => by
    obtain ⟨hp, g, d, tk, os⟩ := s
    obtain ⟨hl, h⟩ := h
    have hsub := sub_enumerate
    have q1 : ∀ {A' : Around} {E : Value → Shared → Prop} {Q : Value → Shared → Prop}, Q (.ref hp.objs.size) ⟨hp.push (tiO l), g, d, tk, os⟩ → wpAny (model prog w) A' (pyIter (.ref l)) Q E ⟨hp, g, d, tk, os⟩ :=
      fun q => wpAny_pyIter_tuple (s := ⟨hp, g, d, tk, os⟩) hl q
    obtain ⟨o, ho, hc, n, hd⟩ := id hl
    wp_walk using AutoSeq1.wpAny_loadPart' ho, q1
    refine wpAny_stack_any fun st => wpAny_pure ?_
    split
    · rename_i c _ _ _ _ _
      cases (c == Value.type "enumerate")
      · wp_walk using AutoSeq1.wpAny_loadPart' ho, q1
        exact ⟨_, rfl, h⟩
      · wp_walk using AutoSeq1.wpAny_loadPart' ho, q1
        exact ⟨_, rfl, h⟩
    · wp_walk using AutoSeq1.wpAny_loadPart' ho, q1
      exact ⟨_, rfl, h⟩
section
variable {prog : Program} {w : World} {A : Around} {E : Value → Shared → Prop} {s : Shared}
theorem call_enumT {l : Addr} {items : Array Value} {Q : Value → Shared → Prop} (hL : s.heap.IsTuple l items)
    (h : ∀ h', IsEnum h' (s.heap.objs.size + 1) s.heap.objs.size 0 .none → h'.IsTupleIter s.heap.objs.size l 0 → (∀ b o, s.heap.get? b = some o → h'.get? b = some o) → Q (.ref (s.heap.objs.size + 1)) { s with heap := h' }) :
    wpAny (model prog w) A (call (.type "enumerate") [.ref l]) Q E s := by
  refine callType_new F.called_enumerate (by decide) (F.typeCall_enumerate_1 _) (F.newCall_enumerate_1 _) (fun obj => F.args_object_init_2 obj _) F.entry_enumerate_new (meets_enumT l items) ⟨hL, ?_⟩
  have z1 : (s.heap.push (tiO l)).objs.size = s.heap.objs.size + 1 := Heap.size_push ..
  show _ ∧ _
  rw [z1]
  have he : IsEnum ((s.heap.push (tiO l)).push (enO s.heap.objs.size)) (s.heap.objs.size + 1) s.heap.objs.size 0 .none := by
    have q := Heap.get?_push_size (s.heap.push (tiO l)) (o := enO s.heap.objs.size) rfl
    rw [z1] at q
    exact q
  refine ⟨⟨_, he, rfl⟩, h _ he ⟨_, Heap.get?_push_of_some _ (Heap.get?_push_size _ rfl), rfl, rfl⟩ fun b o x => ?_⟩
  exact Heap.get?_push_of_some _ (Heap.get?_push_of_some _ x)
end
end DQ
namespace DL
open PySem PySem.Spec L2
/-- the tuple at a, each item in a new pair with its place -/
def Iet (K : PySem.W.Frag) (a : Addr) : It :=
  ⟨fun i H => ∃ (xs : List V) (x : V), SqT K H a xs ∧ xs[i]? = some x, fun i H v H' => ∃ T x, v = .ref T ∧ H T = none ∧ H' = upd H T (.tup [.int (i : Nat), x]) ∧ ∀ xs, SqT K H a xs → xs[i]? = some x, fun i H => ∃ xs : List V, SqT K H a xs ∧ xs.length = i⟩
theorem turn_enumT {P : Program} {w : World} {K : PySem.W.Frag} {elts : List Expr} {kk : Nat} {tpos : Pos} (a e it : Addr) :
    Turn P w K (.Tuple elts kk tpos) (Iet K a) [e, it] e (fun i h => (∃ old, IsEnum h e it ((i : Nat) : Int) old) ∧ h.IsTupleIter it a i ∧ e ≠ it ∧ a ≠ it ∧ a ≠ e) where
  mem := by simp
  obj := fun i h st b hb => by
    obtain ⟨⟨old, he⟩, ⟨o, ho, hc, hd⟩, _⟩ := st
    rcases (show b = e ∨ b = it by simpa using hb) with z | z
    · rw [z]; exact ⟨_, he, fun v q => nomatch q⟩
    · exact ⟨o, z ▸ ho, fun v q => by rw [hd] at q; cases q⟩
  keep := fun i h h' st k => by
    obtain ⟨⟨old, he⟩, hi, hne⟩ := st
    exact ⟨⟨old, k e (by simp) _ he⟩, hi.at fun o q => k it (by simp) o q, hne⟩
  item := by
    intro X hP hw hK hc i pins s σ H E I hf st hg
    subst hP hw hK
    obtain ⟨⟨old, he⟩, hit, hne, hai, hae⟩ := st
    obtain ⟨xs, x, hq, hx⟩ := hg
    obtain ⟨its, rv, p, hz⟩ := I.tuple hq
    obtain ⟨u, hu, ru⟩ := rv.get hx
    have lte : e < s.heap.objs.size := Heap.lt_size he
    have lti : it < s.heap.objs.size := by obtain ⟨_, q, _⟩ := hit; exact Heap.lt_size q
    have lts : ∀ b ∈ [e, it], b < s.heap.objs.size := fun b hb => by
      rcases (show b = e ∨ b = it by simpa using hb) with z | z
      · rw [z]; exact lte
      · rw [z]; exact lti
    have hus : its.toArray[i]? = some u := by simpa using hu
    have hil : i < its.toArray.size := (Array.getElem?_eq_some_iff.mp hus).1
    have D := Draws.tuple (prog := X.prog) (w := X.w) (A := X.A.in1) (show X.A.in1.handled = none from I.ok.hd hc) it a hai its.toArray
    refine wpAny_pyNext_enum_itemD D he ⟨hit, p⟩ hil hne (by simp [Ne.symm hae, hne]) fun x' h' tk hx' ho st' hT hsz hk => ?_
    have ex : x' = u := by
      have hx2 : its.toArray[i]? = some x' := hx'
      rw [hus] at hx2
      exact (Option.some.inj hx2).symm
    subst ex
    refine ⟨_, rfl, wpAny_letOwnedTupleGo_enum (s := { s with heap := h', toks := tk + 1 }) ho fun h'' he' sb => ?_⟩
    have hT2 : h''.get? s.heap.objs.size = some { cls := .type "tuple", data := .seq #[.int i tk, x'] } := (sb.2 _ (Nat.ne_of_gt lte)).trans hT
    have new : ObjOk X.prog X.w (upd H s.heap.objs.size (.tup [.int (i : Nat), x])) h'' s.heap.objs.size (.tup [.int (i : Nat), x]) :=
      ⟨by show 2 ≤ sizeLine; decide, [.int i tk, x'], .cons ⟨_, rfl⟩ (.cons ru .nil), ⟨_, hT2, rfl, _, rfl⟩⟩
    have I1 : Inv X pins σ (upd H s.heap.objs.size (.tup [.int (i : Nat), x])) { s with heap := h'', toks := tk + 1 } :=
      I.turnedNew (ch := [e, it]) (fun b ob hb q => by
        have n1 : b ≠ e := fun z => hb (by simp [z])
        have n2 : b ≠ it := fun z => hb (by simp [z])
        exact (sb.2 b n1).trans (hk b ob n1 n2 q)) hf (Nat.le_refl _) new
    have look : ∀ ys, SqT X.K H a ys → ys[i]? = some x := fun ys hy => by rw [I.tuple_inj hy hq]; exact hx
    have e1 : ((i + 1 : Nat) : Int) = (i : Int) + 1 := by omega
    refine ⟨.ref s.heap.objs.size, _, I1, rfl, ⟨_, x, rfl, I.hok.fresh (Nat.le_refl _), rfl, look⟩, ⟨⟨x', by rw [e1]; exact he'⟩, st'.1.at fun o q => (sb.2 it (Ne.symm hne)).trans q, hne, hai, hae⟩, fun b hb => ?_⟩
    rw [upd_ne (Nat.ne_of_lt (lts b hb))]
    exact (hf b hb).1
  done := by
    intro X hP hw hK hc i pins s σ H E I hf st hg
    subst hP hw hK
    obtain ⟨⟨old, he⟩, hit, hne, hai, hae⟩ := st
    obtain ⟨xs, hq, hx⟩ := hg
    obtain ⟨its, rv, p, hz⟩ := I.tuple hq
    obtain ⟨f0, f1, f2, f3, f4, f5⟩ := hf it (by simp)
    have hl := rv.length
    have hn : i = its.toArray.size := by simp; omega
    have D := Draws.tuple (prog := X.prog) (w := X.w) (A := X.A.in1) (show X.A.in1.handled = none from I.ok.hd hc) it a hai its.toArray
    have hit2 : s.heap.IsTupleIter it a its.toArray.size := hn ▸ hit
    exact wpAny_pyNext_enum_endD D he ⟨hit2, p⟩ fun h' eb => ⟨rfl, I.turned (t' := s.toks) (fun b o hb q => eb b o hb q) f0 f1 f3 f4 f5⟩
  self := fun A i s Q E st h => let ⟨⟨_, he⟩, _⟩ := st; wpAny_pyIter_enum he h
def iEnT (K : PySem.W.Frag) (ta : TA) : TI := fun σ H R => ta σ H fun vs H1 => ∃ a xs, vs = [.ref a] ∧ SqT K H1 a xs ∧ R (Iet K a) H1
theorem pi_enumT {X : Cx} {e : Expr} {ta : TA} {p pos tpos : Pos} {elts : List Expr} {kk : Nat} (hg : Gl X "enumerate") (hm : X.mg "enumerate" = none) (ha : PA X [e] ta) (hs : starEach [e] X.env = [(false, eval e X.env)] := by rfl) :
    PI X (.Tuple elts kk tpos) (.Call (.Name "enumerate" p) [e] [] pos) (iEnT X.K ta) := by
  refine ⟨fun pins s σ H R I h => ?_⟩
  refine PyProof.Rows.Call_ (ld_blt I hg hm PyProof.Rows.boot_enumerate (PyProof.Rows.callWith_type1 (thn (ha.run pos pins s σ H _ I h) fun us s1 ⟨vs, H1, I1, r1, a, xs, ex, hq, q⟩ => ?_) hs rfl))
  subst ex
  obtain ⟨u, rfl, ru⟩ := vals1 r1
  obtain rfl : u = Value.ref a := ru
  obtain ⟨its, rv, p', hz⟩ := I1.tuple hq
  have lta : a < s1.heap.objs.size := by obtain ⟨o, ho, _⟩ := p'; exact Heap.lt_size ho
  refine DQ.call_enumT (show s1.heap.IsTuple a its.toArray from p') fun h' he hit hk => wpAny_pyIter_enum he ?_
  have I2 : Inv X pins σ H1 { s1 with heap := h' } := I1.kept (t' := s1.toks) hk
  have n1 : a ≠ s1.heap.objs.size := Nat.ne_of_lt lta
  have n2 : a ≠ s1.heap.objs.size + 1 := Nat.ne_of_lt (Nat.lt_succ_of_lt lta)
  refine ⟨s1.heap.objs.size + 1, [s1.heap.objs.size + 1, s1.heap.objs.size], _, _, H1, rfl, I2, turn_enumT a (s1.heap.objs.size + 1) s1.heap.objs.size, ⟨⟨.none, he⟩, hit, Nat.succ_ne_self _, n1, n2⟩, fun b hb => ?_, q⟩
  have hle : s1.heap.objs.size ≤ b := by
    rcases (show b = s1.heap.objs.size + 1 ∨ b = s1.heap.objs.size by simpa using hb) with z | z
    · rw [z]; exact Nat.le_succ _
    · rw [z]; exact Nat.le_refl _
  exact I1.fpOk hle (I1.hok.fresh hle)
/-- the pairs -/
def pairsFrom : Nat → List D → List D
  | _, [] => []
  | i, d :: ds => .tup [.int i, d] :: pairsFrom (i + 1) ds
theorem pairs_len : ∀ (i : Nat) (ds : List D), (pairsFrom i ds).length = ds.length
  | _, [] => rfl
  | i, _ :: ds => congrArg Nat.succ (pairs_len (i + 1) ds)
theorem pairs_get : ∀ (i : Nat) (ds : List D) (j : Nat), (pairsFrom i ds)[j]? = (ds[j]?).map fun d => .tup [.int ((i + j : Nat) : Int), d]
  | _, [], _ => by simp [pairsFrom]
  | i, d :: ds, 0 => by simp [pairsFrom]
  | i, d :: ds, j + 1 => by
    have h := pairs_get (i + 1) ds j
    simp only [pairsFrom, List.getElem?_cons_succ, h]
    congr 1
    funext d
    have : i + 1 + j = i + (j + 1) := by omega
    rw [this]
def iEnM (m : ME) : MI := fun ρ bx => (m ρ bx).bind fun r b => match r.d with
  | .tup ds => .ok (pairsFrom 0 ds) b
  | _ => .stk
theorem si_enum {X : Cx} {CA : Ly} {W : WX} {e : Expr} {m : ME} {p pos tpos : Pos} {elts : List Expr} {kk : Nat} (hg : Gl X "enumerate") (hm : X.mg "enumerate" = none) (h : SE X CA W e m) (hs : starEach [e] X.env = [(false, eval e X.env)] := by rfl)
    (h1 : starEach [e] X.env = (false, eval e X.env) :: starEach [] X.env := by rfl) : SI X CA W (.Tuple elts kk tpos) (.Call (.Name "enumerate" p) [e] [] pos) (iEnM m) := by
  obtain ⟨te, t1, t2⟩ := h.dat
  refine ⟨_, pi_enumT hg hm (pa_cons t1 pa_nil h1) hs, fun ρ bx F μ σ H R s n o => ?_⟩
  show te σ H fun x H1 => ∃ a xs, [x] = [V.ref a] ∧ SqT X.K H1 a xs ∧ R (Iet X.K a) H1
  refine t2 ρ bx F μ σ H _ s n ?_
  unfold iEnM at o
  cases q : m ρ bx with
  | stk => rw [q] at o; exact o.elim
  | exn c ns ds b => rw [q] at o; exact o
  | ok r b =>
    rw [q] at o
    intro v F1 H1 e1 s1 rr
    simp only [Out.bind_ok] at o
    cases rd : r.d with
    | tup ds =>
      rw [rd] at rr o
      obtain ⟨a, vs, q1, q2, q3⟩ := rr
      subst q1
      refine ⟨a, vs, rfl, q2.sq, o _ F1 H1 e1 s1 fun i F2 μ2 H2 bx2 e2 s2 => ?_⟩
      have q4 : SqT X.K H2 a vs := (q2.mono e2.up (s1.stayM e2)).sq
      refine ⟨fun d hd => ?_, fun hd => ⟨vs, q4, by rw [hd, pairs_len, q3.length]⟩⟩
      rw [pairs_get] at hd
      obtain ⟨d0, h2, rfl⟩ := Option.map_eq_some_iff.mp hd
      obtain ⟨v', v1, v2⟩ := q3.get h2
      refine ⟨⟨vs, v', q4, v1⟩, fun x H' y => ?_⟩
      obtain ⟨T, x', rfl, hT, rfl, y2⟩ := y
      have := y2 vs q4
      rw [v1] at this; cases this
      have e3 := Ext.new (o := .tup [.int (i : Nat), v']) s2 hT
      refine ⟨_, e3, s2.new hT, T, [.int (i : Nat), v'], rfl, .inl ⟨.inr rfl, upd_same⟩, ?_⟩
      have : ((0 + i : Nat) : Int) = (i : Int) := by omega
      rw [this]
      exact ⟨rfl, (v2.extM s1 e2).ext s2 e3, trivial⟩
    | _ => rw [rd] at o; exact o.elim
end DL
namespace DL
open PySem PySem.Spec L2
/-! ### dict displays -/
def mDic (ks : List Key) (ds : List D) : ME := fun _ bx => .ok (.new (.dk ks ds)) bx
theorem okD {X : Cx} {CA : Ly} {W : WX} {F : Addr → Prop} {μ : List Addr} {σ : L2.St} {H : Hp} {bx : List D} {ks : List Key} {ds : List D} {vs : List V} {Q : VK} (o : OkG X.K CA W F μ σ H (fun F' H' => RRv X.K CA F' μ H H') (.ok (.new (.dk ks ds)) bx) Q) (s : Sx X.K CA F μ H bx)
    (hl : ks.length = ds.length) (r : ∀ F μ H, Rps X.K CA F μ H ds vs) : ∀ p, H p = none → Q (.ref p) (upd H p (.dK (ks.zip vs))) := fun p hp => by
  have e2 := Ext.tmp (F := F) (μ := μ) (o := .dK (ks.zip vs)) hp
  exact o (.ref p) F _ e2 (s.tmp hp) ⟨p, rfl, .of hp, s.notIn hp, s.notF hp, vs, upd_same, hl, r _ _ _⟩
theorem se_dic0 {X : Cx} {CA : Ly} {W : WX} {pos : Pos} : SE X CA W (.Dict [] [] pos) (mDic [] []) :=
  ⟨_, pe_dnewK, fun ρ bx F μ σ H Q s n o => okD (vs := []) o s rfl fun _ _ _ => trivial⟩
theorem se_dic1 {X : Cx} {CA : Ly} {W : WX} {pos p1 p2 : Pos} {i k : Int} {j1 j2 : Nat} : SE X CA W (.Dict [some (.Constant (.int i) j1 p1)] [.Constant (.int k) j2 p2] pos) (mDic [.inl i] [.int k]) := by
  refine ⟨_, pe_disp (pps_cons pe_int pe_int pps_nil) rfl rfl (by simp) (by simp), fun ρ bx F μ σ H Q s n o p hp => ?_⟩
  refine ⟨upd_same, [(.inl i, .int k)], rfl, by simp, ?_⟩
  have e : upd (upd H p (.dK [])) p (.dK (mergeK [] [(.inl i, .int k)])) = upd H p (.dK [(.inl i, .int k)]) := by
    funext a
    by_cases h : a = p
    · subst h; rw [upd_same, upd_same]; rfl
    · rw [upd_ne h, upd_ne h, upd_ne h]
  rw [e]
  exact okD (vs := [.int k]) o s rfl (fun _ _ _ => ⟨rfl, trivial⟩) p hp
end DL
namespace DL
open PySem PySem.Spec L2
/-! ### a, b = x, y -/
section
variable {X : Cx} {CA : Ly} {W : WX} {a b c : Expr} {px py pz pt pos : Pos} {x y z : Str} {kt k2 : Nat} {pt2 : Pos}
def mPar2 (i j : Nat) (m : MA) : MS := fun ρ bx => liftE (m ρ bx) ρ fun ds b => match ds with
  | [u, v] => .nx ((ρ.set i (some u)).set j (some v)) b
  | _ => .stk
def mPar3 (i j l : Nat) (m : MA) : MS := fun ρ bx => liftE (m ρ bx) ρ fun ds b => match ds with
  | [u, v, w] => .nx (((ρ.set i (some u)).set j (some v)).set l (some w)) b
  | _ => .stk
theorem ss_par2 (i j : Nat) {m : MA} (hc : X.calm = true) (hN : X.N.Nodup) (ha : SA X CA W [a, b] m) (hij : i ≠ j := by decide) (hi : X.N[i]? = some x := by rfl) (hj : X.N[j]? = some y := by rfl)
    (hx : X.env.scope.names.lookup x = some .local := by rfl) (hy : X.env.scope.names.lookup y = some .local := by rfl)
    (hw : swappedStores [.Tuple [.Name x px, .Name y py] kt pt] (.Tuple [a, b] k2 pt2) X.env = pure (some [x, y]) := by rfl)
    (hs : swapsWithSole [.Tuple [.Name x px, .Name y py] kt pt] (.Tuple [a, b] k2 pt2) pos.line X.env = pure false := by rfl) :
    SS X CA W (.Assign [.Tuple [.Name x px, .Name y py] kt pt] (.Tuple [a, b] k2 pt2) pos) (mPar2 i j m) := by
  obtain ⟨t, t1, t2⟩ := ha.ex
  refine ⟨_, ps_par hc hN hi hj hij hx hy t1 hw hs, fun ρ bx F μ σ H D s n o => t2 ρ bx F μ σ H _ s n ?_⟩
  unfold mPar2 at o
  cases q : m ρ bx with
  | stk => rw [q] at o; exact o.elim
  | exn c ns ds b => rw [q] at o; exact fun cls dx F' H' e' s' x => o cls dx σ F' μ H' e'.m s' (n.ext s e') x
  | ok ds b =>
    rw [q] at o
    intro vs F1 H1 e1 s1 rs
    match ds, vs, rs, o with
    | [u, v], [u', v'], ⟨ru, rv, _⟩, o => exact ⟨u', v', rfl, o _ F1 μ H1 e1.m s1 (((n.ext s e1).set ru).set rv)⟩
    | [], _, _, o => exact o.elim
    | [_], _, _, o => exact o.elim
    | _ :: _ :: _ :: _, _, _, o => exact o.elim
    | [_, _], [], r, _ => exact r.elim
    | [_, _], [_], r, _ => exact r.2.elim
    | [_, _], _ :: _ :: _ :: _, r, _ => exact r.2.2.elim
theorem ss_par3 (i j l : Nat) {m : MA} (hc : X.calm = true) (hN : X.N.Nodup) (ha : SA X CA W [a, b, c] m) (hij : i ≠ j := by decide) (hil : i ≠ l := by decide) (hjl : j ≠ l := by decide) (hi : X.N[i]? = some x := by rfl) (hj : X.N[j]? = some y := by rfl) (hl : X.N[l]? = some z := by rfl)
    (hx : X.env.scope.names.lookup x = some .local := by rfl) (hy : X.env.scope.names.lookup y = some .local := by rfl) (hz : X.env.scope.names.lookup z = some .local := by rfl)
    (hw : swappedStores [.Tuple [.Name x px, .Name y py, .Name z pz] kt pt] (.Tuple [a, b, c] k2 pt2) X.env = pure (some [x, y, z]) := by rfl)
    (hs : swapsWithSole [.Tuple [.Name x px, .Name y py, .Name z pz] kt pt] (.Tuple [a, b, c] k2 pt2) pos.line X.env = pure false := by rfl) :
    SS X CA W (.Assign [.Tuple [.Name x px, .Name y py, .Name z pz] kt pt] (.Tuple [a, b, c] k2 pt2) pos) (mPar3 i j l m) := by
  obtain ⟨t, t1, t2⟩ := ha.ex
  refine ⟨_, ps_par3 hc hN hi hj hl hij hil hjl hx hy hz t1 hw hs, fun ρ bx F μ σ H D s n o => t2 ρ bx F μ σ H _ s n ?_⟩
  unfold mPar3 at o
  cases q : m ρ bx with
  | stk => rw [q] at o; exact o.elim
  | exn c ns ds b => rw [q] at o; exact fun cls dx F' H' e' s' x => o cls dx σ F' μ H' e'.m s' (n.ext s e') x
  | ok ds b =>
    rw [q] at o
    intro vs F1 H1 e1 s1 rs
    match ds, vs, rs, o with
    | [u, v, w], [u', v', w'], ⟨ru, rv, rw, _⟩, o => exact ⟨u', v', w', rfl, o _ F1 μ H1 e1.m s1 ((((n.ext s e1).set ru).set rv).set rw)⟩
    | [], _, _, o => exact o.elim
    | [_], _, _, o => exact o.elim
    | [_, _], _, _, o => exact o.elim
    | _ :: _ :: _ :: _ :: _, _, _, o => exact o.elim
    | [_, _, _], [], r, _ => exact r.elim
    | [_, _, _], [_], r, _ => exact r.2.elim
    | [_, _, _], [_, _], r, _ => exact r.2.2.elim
    | [_, _, _], _ :: _ :: _ :: _ :: _, r, _ => exact r.2.2.2.elim
end
end DL

set_option Elab.async false
set_option linter.all false
set_option maxRecDepth 100000
set_option maxHeartbeats 4000000
/-! DL16: ~x and x(..) of own classes; defs that call themselves. -/
namespace DL
open PySem PySem.Spec L2
section
variable {M : Model} {A : Around} {E : Value → Shared → Prop} {s : Shared} {env : Env} {pos : Pos} {x : Addr} {Q : Value → Shared → Prop}
/-- an instance stands there -/
def InstB (K : PySem.W.Frag) (x : Addr) (h : Heap) : Prop := ∃ (C : Addr) (o : Obj) (d : Option Obj), o.data = .plain ∧ PySem.W.InstAt h x o C d
theorem inst_callWith {K : PySem.W.Frag} {e : Expr} {rest : List Expr} (he : starEach (e :: rest) env = (false, eval e env) :: starEach rest env) (hp : (backTo pos (starEach rest env)).any (·.1) = false)
    (h : wpAny M A (spliced (backTo pos (starEach (e :: rest) env))) (fun vs s1 => InstB K x s1.heap ∧ wpAny M A (call (.ref x) vs) Q E s1) E s) : wpAny M A (callWith pos (.ref x) [] (backTo pos (starEach (e :: rest) env)) []) Q E s := by
  rw [he] at h ⊢
  have h2 : wpAny M A (PySem.evalArgs (.ref x) true (backTo pos ((false, eval e env) :: starEach rest env)) []) (fun a s1 => InstB K x s1.heap ∧ wpAny M A (call (.ref x) ([] ++ a.pos) a.kw) Q E s1) E s := PySem.Calls.evalArgs_plain h
  have hq : ((backTo pos ((false, eval e env) :: starEach rest env)).any (·.1) || ([] : List (Option Str × Sem Value)).any (·.1.isNone)) = false := by
    show ((false || (backTo pos (starEach rest env)).any (·.1)) || false) = false
    rw [hp]; rfl
  unfold callWith
  refine wpAny_bind (wpAny_holding (wpAny_mono h2 (fun a s1 k => ?_) fun _ _ y => y))
  obtain ⟨⟨C, o, d, hd, I⟩, k⟩ := k
  refine wpAny_bind (wpAny_standAt ?_)
  simp only [hq]
  refine wpAny_bind ((PySem.W.kco_keeper (M := M) I hd).here ?_)
  exact wpAny_bind (wpAny_mono (wpAny_operateT k) (fun r s2 hr => wpAny_bind (wpAny_holding (wpAny_point (wpAny_pure hr)))) fun _ _ y => y)
end
section
variable {X : Cx} {CA : Ly} {W : WX} {k c : Nat} {g : Addr} {mf : MF}
def unC (c : Nat) (mf : MF) : D → List D → Out R := fun x bx => match x.obj bx with
  | some (c1, _, _) => if c1 = c then mf [x] bx else .stk
  | none => .stk
theorem dun_invC (hf : PySem.W.findIn X.K (.ref (CA c)) "__invert__" = some (some (.ref g))) (fn : PySem.W.isFn X.K (.ref g) = true) (F : FnR X.prog X.w X.K X.mg X.base (L2.CX X.prog X.w) k g (spR X.K CA mf)) (hr : Room k X.A) :
    DUn X CA W (unaryOp .Invert) (fun x bx => noX (unC c mf x bx)) := by
  refine ⟨fun v H Q => ∃ d bx FF μ, Sx X.K CA FF μ H bx ∧ Rp X.K CA FF μ H d v ∧ OkN X.K CA FF μ H (unC c mf d bx) Q, ?_, fun x vx bx F μ σ H Q s rx o => ⟨x, bx, F, μ, s, rx, OkN.of o⟩⟩
  intro pins s σ H x v Q I rx ⟨d, bx, FF, μ, sx, rd, o⟩
  unfold unC at o
  cases q : d.obj bx with
  | none => simp only [q] at o; exact o.elim
  | some t =>
    obtain ⟨c1, ns, ds⟩ := t
    simp only [q] at o
    by_cases hh : c1 = c
    · rw [if_pos hh] at o
      subst hh
      obtain ⟨a, dx, vs, h1, h2, _⟩ := obj_at sx rd q
      subst h1
      obtain rfl : v = Value.ref a := rx
      obtain ⟨od, J⟩ := ins_inst I h2
      obtain ⟨m, hF⟩ := I.fr
      refine PySem.W.ksp_inv hF I.ok.mod.kin J hf fn (wpAny_mono (wpAny_call (run_atS (us := [.ref a]) (ws := [.ref a]) F hr I.env0 pass0' I (.cons rfl .nil) (OkN.sp sx (Rps.one rd) o))) (fun w' s' hv => ?_) fun _ _ e => e)
      obtain ⟨z, H', I', rz, qz⟩ := hv
      exact ⟨z, H', I', rz, qz⟩
    · rw [if_neg hh] at o; exact o.elim
/-- x(..), x a name that holds an instance -/
def mCI (c : Nat) (mf : MF) (i : Nat) (a : MA) : ME := fun ρ bx => match ρ[i]? with
  | some (some d) => (match d.obj bx with
    | some _ => (a ρ bx).bind fun ds b => match d.obj b with
      | some (c1, _, _) => if c1 = c then noX (mf (d :: ds) b) else .stk
      | none => .stk
    | none => .stk)
  | _ => .stk
theorem se_callI {i : Nat} {x : Str} {p pos : Pos} {e : Expr} {es : List Expr} {m : MA} (hf : PySem.W.findIn X.K (.ref (CA c)) "__call__" = some (some (.ref g))) (fn : PySem.W.isFn X.K (.ref g) = true) (fi : PySem.W.fnIn X.K g = true) (F : FnR X.prog X.w X.K X.mg X.base (L2.CX X.prog X.w) k g (spR X.K CA mf)) (hr : Room k X.A)
    (hN : X.N[i]? = some x) (hv : Vis X.env.scope x) (ha : SA X CA W (e :: es) m) (hd : (x == ("__debug__" : Str)) = false := by decide) (hcd : (x == ("__classdict__" : Str)) = false := by decide)
    (he : starEach (e :: es) X.env = (false, eval e X.env) :: starEach es X.env := by rfl) (hpl : (backTo pos (starEach es X.env)).any (·.1) = false := by rfl) : SE X CA W (.Call (.Name x p) (e :: es) [] pos) (mCI c mf i m) := by
  obtain ⟨ta, a1, a2⟩ := ha.ex
  refine ⟨fun σ H Q => ∃ a, σ[i]? = some (some (.ref a)) ∧ ta σ H fun vs H1 => ∃ dx fs, H1 a = some (.ins (CA c) dx fs) ∧ spR X.K CA mf (.ref a :: vs) H1 Q E0, ⟨fun pins s σ H Q I h => ?_⟩, fun ρ bx F μ σ H Q s n o => ?_⟩
  · obtain ⟨a, hs, h⟩ := h
    refine wpAny_Call_Name_kw (thn ((pe_var (pos := p) (i := i) hN hv hd hcd).run pins s σ H (fun v H1 => v = .ref a ∧ H1 = H) I ⟨.ref a, hs, rfl, rfl⟩) fun w s1 ⟨v, H1, I1, q1, ev, eH⟩ => ?_)
    subst ev
    rw [eH] at I1
    cases q1
    refine inst_callWith (K := X.K) he hpl (thn (a1.run pos pins s1 σ H _ I1 h) fun us s2 ⟨vs, H2, I2, rv, dx, fs, h2, q⟩ => ?_)
    obtain ⟨od, J⟩ := ins_inst I2 h2
    refine ⟨⟨_, _, _, rfl, J⟩, wpAny_mono (wpAny_call (PySem.W.kco_code I2.kIn J rfl hf fn fi (run_atS (us := .ref a :: us) (ws := .ref a :: vs) F hr I2.env0 pass0' I2 (.cons rfl rv) q))) (fun w' s' hv => ?_) fun _ _ e => e⟩
    exact hv
  · unfold mCI at o
    cases q : ρ[i]? with
    | none => rw [q] at o; exact o.elim
    | some d0 => cases d0 with
      | none => rw [q] at o; exact o.elim
      | some d =>
        rw [q] at o
        obtain ⟨v, w1, w2⟩ := n.at_ i _ q
        have ho : ∀ (bx' : List D), d.obj bx' ≠ none → ∃ a, v = .ref a := fun bx' hne => by
          cases d with
          | box j => obtain ⟨a, e, _⟩ := w2; exact ⟨a, e⟩
          | ins c ns ds => obtain ⟨a, _, _, e, _⟩ := w2; exact ⟨a, e⟩
          | _ => exact absurd rfl hne
        simp only at o
        have key : ∃ a, v = .ref a := by
          cases qo : d.obj bx with
          | none => simp only [qo] at o; exact o.elim
          | some t => exact ho bx (by rw [qo]; exact fun z => by cases z)
        have o : OkG X.K CA W F μ σ H (fun F' H' => RRv X.K CA F' μ H H') ((m ρ bx).bind fun ds b => match d.obj b with
          | some (c1, _, _) => if c1 = c then noX (mf (d :: ds) b) else .stk
          | none => .stk) Q := by
          cases qo : d.obj bx with
          | none => simp only [qo] at o; exact o.elim
          | some t => simp only [qo] at o; exact o
        obtain ⟨a, ea⟩ := key
        subst ea
        refine ⟨a, w1, a2 ρ bx F μ σ H _ s n ?_⟩
        refine OkG.seq (rel2 := fun F' H' => RRv X.K CA F' μ H H') (Q := Q) o fun ds b1 vs F1 H1 e1 s1 rs o1 => ?_
        cases qo : d.obj b1 with
        | none => simp only [qo] at o1; exact o1.elim
        | some t =>
          obtain ⟨c1, ns, es'⟩ := t
          simp only [qo] at o1
          by_cases hh : c1 = c
          · rw [if_pos hh] at o1
            subst hh
            have w3 := w2.ext s e1
            obtain ⟨a', dx, fs, h1, h2, _⟩ := obj_at s1 w3 qo
            cases h1
            exact ⟨dx, _, h2, OkN.sp s1 (show Rps X.K CA F1 μ H1 (d :: ds) (.ref a :: vs) from ⟨w3, rs⟩) (OkN.of (OkG.shiftR e1 o1))⟩
          · rw [if_neg hh] at o1; exact o1.elim
/-- nothing is promised -/
def mStk : MS := fun _ _ => .stk
theorem sb_stk {sts : List Stmt} : SB X CA W sts mStk := ⟨fun _ _ _ => False, ⟨fun _ _ _ _ _ _ h => h.elim⟩, fun _ _ _ _ _ _ _ _ _ o => o⟩
end
end DL

set_option Elab.async false
set_option linter.all false
set_option maxRecDepth 100000
set_option maxHeartbeats 4000000
/-! DL17: sets of names: set(names), sorted(set(names)). -/
namespace DN
open PySem PySem.Spec PyProof.Rows L2 PySem.Froz
/-- the names l, each once, in the set at a -/
def NmR (P : Program) (w : World) (h : Heap) (a : Addr) (l : List Str) : Prop :=
  ∃ D : SD, h.get? a = some (sObj "set" D) ∧ TxOk P w D l ∧ l.Nodup ∧ Ris D.2.2.place.toList ∧ (w.params.followText "set-order" = true ∨ D.2.2.led = true)
theorem NmR.move {P : Program} {w : World} {h h' : Heap} {a : Addr} {l : List Str} (R : NmR P w h a l) (k : ∀ o, h.get? a = some o → h'.get? a = some o) : NmR P w h' a l :=
  let ⟨D, h1, r⟩ := R; ⟨D, k _ h1, r⟩
theorem tail_ris {ep : Nat} {es : Array (Int × Value)} {t : SetTable} {b : Bool} (r : Ris t.place.toList) : Ris (tailTx ep es t b).2.2.place.toList := by
  unfold tailTx
  split
  · exact relayAll_ris _ _ _
  · exact r
theorem tail_led {ep : Nat} {es : Array (Int × Value)} {t : SetTable} {b : Bool} : (tailTx ep es t b).2.2.led = t.led := by
  unfold tailTx
  split
  · exact relayAll_led _ _ _
  · rfl
theorem add_ris (h : Int) (v : Value) (D : SD) (r : Ris D.2.2.place.toList) : Ris (addTx h v D).2.2.place.toList := by
  have r1 := layNew_ris D.2.2 D.1 h v r
  refine tail_ris ?_
  split
  · exact r1
  · exact r1
theorem add_led (h : Int) (v : Value) (D : SD) : (addTx h v D).2.2.led = D.2.2.led := by
  have r1 := layNew_led D.2.2 D.1 h v
  refine tail_led.trans ?_
  split
  · exact r1
  · exact r1
/-- a value's name -/
def nameV : Value → Str
  | .str x _ => x
  | _ => Str.empty
theorem names_are : ∀ vs : List Value, (∀ v ∈ vs, ∃ x t, v = .str x t) → StrsAre vs (vs.map nameV)
  | [], _ => .nil
  | v :: vs, h => by
    obtain ⟨x, t, rfl⟩ := h v (List.mem_cons_self ..)
    exact .cons x t (names_are vs fun u hu => h u (List.mem_cons_of_mem _ hu))
theorem perm_of : ∀ (l ns : List Str), l.Nodup → (∀ k ∈ l, k ∈ ns) → ns.length ≤ l.length → ns.Perm l
  | [], ns, _, _, h => by
    have : ns = [] := List.length_eq_zero_iff.mp (Nat.le_zero.mp h)
    rw [this]
  | k :: l, ns, nd, hs, h => by
    obtain ⟨n1, n2⟩ := List.nodup_cons.mp nd
    have hk : k ∈ ns := hs k (List.mem_cons_self ..)
    refine (List.perm_cons_erase hk).trans (List.Perm.cons k (perm_of l (ns.erase k) n2 (fun j hj => ?_) ?_))
    · exact (List.mem_erase_of_ne (fun z : j = k => n1 (z ▸ hj))).mpr (hs j (List.mem_cons_of_mem _ hj))
    · rw [List.length_erase_of_mem hk]
      rw [List.length_cons] at h
      omega
section
variable {P : Program} {w : World} {A : Around} {E : Value → Shared → Prop} {s : Shared} {a : Addr} {l : List Str}
theorem nm_add {k : Str} {u : Tok} {Q : Bool → Shared → Prop} (R : NmR P w s.heap a l) (room : l.length + 1 < scanBound)
    (h : ∀ (b : Bool) (h' : Heap) (l' : List Str), Heap.SameBut a s.heap h' → NmR P w h' a l' → l'.length ≤ l.length + 1 → (∀ j, j ∈ l' ↔ j ∈ l ∨ j = k) → Q b { s with heap := h' }) :
    wpAny (model P w) A (setAddHashed a (.str k u) (hashStr w k)) Q E s := by
  obtain ⟨D, h1, h2, h3, h4, h5⟩ := R
  by_cases hk : k ∈ l
  · obtain ⟨es, ep, t⟩ := D
    have hel : ElemsOf (strKind P w) es.toList := h2.el
    have hsz : es.size = l.length := h2.sz
    have hb : es.size < scanBound := by omega
    have key := is_str (P := P) (w := w) k u
    obtain ⟨e, he, hq⟩ := (h2.mem k).mp hk
    unfold setAddHashed setAddHashedIn
    refine wpAny_holding (wpAny_bind (wpAny_setState_of h1 (es := es) (ep := ep) (t := t) rfl h2.fit ?_))
    dsimp only
    rw [byScan_of (x := Value.str k u) rfl hb hel]
    simp only [↓reduceIte]
    unfold setAddByScan
    refine wpAny_bind (wpAny_bind (wpAny_rule (wpAny_bind (wpAny_setScan_of (knd := strKind P w) (k := k) key h1 rfl h2.fit hel ?_))))
    cases hf : List.findIdx? (fun e => (strKind P w).is k e.2) es.toList with
    | none =>
      have c := List.findIdx?_eq_none_iff.mp hf e he
      rw [hq] at c; cases c
    | some j =>
      dsimp only
      refine wpAny_pure (wpAny_pure ?_)
      exact h _ s.heap l (Heap.SameBut.refl a s.heap) ⟨(es, ep, t), h1, h2, h3, h4, h5⟩ (Nat.le_succ _) fun i => ⟨.inl, fun z => z.elim id fun e => e ▸ hk⟩
  · refine add_x h1 h2 hk room (h true _ (k :: l) (Heap.SameBut.update s.heap a _) ⟨addTx (hashStr w k) (.str k u) D, get_upd _ h1 rfl, add_ok u h2, List.nodup_cons.mpr ⟨hk, h3⟩, add_ris _ _ _ h4, ?_⟩ (Nat.le_refl _) fun i => ?_)
    · exact h5.imp id fun z => by rw [add_led]; exact z
    · rw [List.mem_cons]; exact or_comm
/-- the loop of set(..) over names -/
theorem nm_loop {I : Addr} {fp wr : List Addr} {G : Array GenState → Array GenState → Prop} {n : Nat} {Pv : Nat → Value → Prop} {St : Nat → Shared → Prop} {R : Result → Shared → Prop}
    (W : WalksS P w A.in1 I fp wr G n Pv St) (S : Addr) (free : S ∉ fp) (xs : List Str) (hn : n = xs.length) (hb : xs.length + 1 < scanBound) (hval : ∀ i v, Pv i v → ∃ k t, xs[i]? = some k ∧ v = .str k t) :
    ∀ (d i : Nat) (s : Shared), n - i = d → i ≤ n → St i s → (∃ l, l.length ≤ i ∧ NmR P w s.heap S l ∧ ∀ j, j ∈ l ↔ j ∈ xs.take i) →
      (∀ s' l, Moved (S :: wr) G s s' → l.length ≤ n → NmR P w s'.heap S l → (∀ j, j ∈ l ↔ j ∈ xs) → R (.ok (.ret .none)) s') →
      codeAny (model P w) A (.builtin "set.update.loop" ⟨[.ref S, .ref I], []⟩) R s := by
  have nw : S ∉ wr := fun z => free (W.sub _ z)
  have sub : ∀ b ∈ wr, b ∈ S :: wr := fun b z => List.mem_cons_of_mem _ z
  intro d
  induction d with
  | zero =>
    intro i s hd hi st ⟨l, hl, hS, hm⟩ fin
    have e : i = n := by omega
    subst e
    refine (codeAny_builtin (F.entry_set_update_loop) ?_)
    rw [(Around.under_plainId F.plain_set_update_loop _)]
    show wpAny _ A.in1 (pyNext (.ref I) >>= _) _ _ _
    refine wpAny_bind (W.done s _ _ st fun s2 mv => (show wpAny _ A.in1 (ret Value.none) _ _ s2 from ?_))
    exact wpAny_pure (fin s2 l (mv.mono sub) hl (hS.move fun o q => mv.heap S o nw q) fun j => by rw [hm, List.take_of_length_le (by omega)])
  | succ d ih =>
    intro i s hd hi st ⟨l, hl, hS, hm⟩ fin
    have lt : i < n := by omega
    refine (codeAny_builtin (F.entry_set_update_loop) ?_)
    rw [(Around.under_plainId F.plain_set_update_loop _)]
    show wpAny _ A.in1 (pyNext (.ref I) >>= _) _ _ _
    refine wpAny_bind (W.item i s _ _ lt st fun v s2 pv st2 mv => ?_)
    obtain ⟨k, t, hk, ev⟩ := hval i v pv
    subst ev
    have hS2 := hS.move fun o q => mv.heap S o nw q
    show wpAny _ A.in1 (holding [Value.str k t] (setAdd S (.str k t)) >>= _) _ _ s2
    refine wpAny_bind (wpAny_holding (?_))
    unfold setAdd
    refine wpAny_holding (wpAny_bind ((strKind P w).pyHash (k := k) (is_str k t) ?_))
    refine nm_add (s := { s2 with toks := s2.toks + 1 }) hS2 (by omega) fun b h' l' sb hS3 hl3 hm3 => ?_
    refine wpAny_pure ⟨(plainId_quiet F.plain_set_update_loop _), ih (i + 1) _ (by omega) lt (W.frame _ s2 _ _ st2 (Nat.le_succ _) fun c hc o q => ?_) ⟨l', by omega, hS3, fun j => ?_⟩ fun s3 l3 mv3 hl4 hS4 hm4 => ?_⟩
    · rw [sb.2 c (fun z : c = S => free (by rw [← z]; exact hc))]; exact q
    · rw [hm3, hm, List.take_add_one, hk]
      simp [List.mem_append]
    · refine fin s3 l3 (Moved.trans W.gtrans ((mv.mono sub).then_heap (Nat.le_succ _) fun c o hc q => ?_) mv3) hl4 hS4 hm4
      rw [sb.2 c (fun z : c = S => hc (by rw [z]; exact List.mem_cons_self))]; exact q
theorem nm_fresh {P : Program} {w : World} {h : Heap} {a : Addr} (ho : h.get? a = some (sObj "set" (#[], 0, .fresh 0 0 (!w.params.followText "set-order")))) : NmR P w h a [] :=
  ⟨(#[], 0, .fresh 0 0 (!w.params.followText "set-order")), ho, TxOk.nil (by rfl), List.nodup_nil, List.Pairwise.nil, by
    show _ ∨ (!w.params.followText "set-order") = true
    cases w.params.followText "set-order" <;> simp⟩
set_option maxHeartbeats 3200000 in
theorem nm_call {p : Addr} {items : Array Value} (xs : List Str) {Q : Value → Shared → Prop} (hh : A.handled = none) (hp : s.heap.IsList p items) (hit : StrsAre items.toList xs) (room : xs.length + 1 < scanBound)
    (h : ∀ (h' : Heap) (tk : Nat) (l : List Str), NmR P w h' s.heap.objs.size l → l.length ≤ xs.length → (∀ j, j ∈ l ↔ j ∈ xs) → (∀ b o, s.heap.get? b = some o → h'.get? b = some o) → Q (.ref s.heap.objs.size) { s with heap := h', toks := tk }) :
    wpAny (model P w) A (call (.type "set") [.ref p]) Q E s := by
  have isz : items.size = xs.length := by
    have q := StrsAre.len_eq hit
    rw [Array.length_toList] at q
    exact q
  obtain ⟨c, tl, hmro⟩ := F.called_set.mro
  have mk1 := F.called_set.made
  have sb1 := F.called_set.sub
  refine (wpAny_call (codeAny_of_tree (?_)))
  show wpAny _ _ (callAny (.type "set") _) _ _ s
  refine wpAny_pure ⟨(Code.quiet_builtin _ (by decide +kernel)), (codeAny_builtin F.entry_type_call ?_)⟩
  rw [(Around.under_plain (weight_type_call_type "set" [.ref p] []) rfl)]
  have k1 := F.called_set.notType
  have k2 := F.called_set.canCreate
  have k3 := F.typeCall_set_1 (.ref p)
  repeat (any_goals (first | assumption | wp_step))
  let fr : Obj := sObj "set" (#[], 0, .fresh 0 0 (!w.params.followText "set-order"))
  refine codeAny_mono (code_set_led1 (.ref p) (E := E) (Q₁ := fun obj s1 => obj = .ref s.heap.objs.size ∧ s1 = { s with heap := s.heap.push fr }) ⟨rfl, rfl⟩) fun r s1 hr => ?_
  cases r with
  | error e => exact hr
  | ok fl =>
    cases fl with
    | ret obj =>
      obtain ⟨rfl, rfl⟩ := hr
      have hS : (s.heap.push fr).get? s.heap.objs.size = some fr := Heap.get?_push_size _ rfl
      have hT : Shared.TypeIs { s with heap := s.heap.push fr } (.ref s.heap.objs.size) "set" := ⟨_, hS, rfl⟩
      have li := F.called_set.init.lookup
      have bi := F.called_set.init.bind (.ref s.heap.objs.size)
      repeat (any_goals (first | assumption | wp_step))
      refine codeAny_mono (codeAny_call_builtin (R := wants (fun r s2 => r = .none ∧ ∃ h' tk l, s2 = { s with heap := h', toks := tk } ∧ NmR P w h' s.heap.objs.size l ∧ l.length ≤ xs.length ∧ (∀ j, j ∈ l ↔ j ∈ xs) ∧
          ∀ b o, s.heap.get? b = some o → h'.get? b = some o) E) F.called_set.init.plain F.entry_set_init (check_set_init_1 hT ?_)) fun r2 s2 hr2 => ?_
      · obtain ⟨ol, hol, hcl, nl, hdl⟩ := hp
        obtain ⟨ocls, odict, odata, oslots⟩ := ol
        simp only at hcl hdl
        subst hcl hdl
        have hol' : (s.heap.push fr).get? p = some { cls := .type "list", dict := odict, data := .seq items nl, slots := oslots } := Heap.get?_push_of_some _ hol
        have z1 := F.sub_list_set
        have z2 := F.sub_list_frozenset
        have z3 : (Value.type "list" == Value.type "dict") = false := by decide
        have hl1 : (s.heap.push fr).IsList p items := ⟨_, hol', rfl, nl, rfl⟩
        unfold Builtin.«set.__init__» noKeywords Builtin.Frozenset.updateFrom
        generalize hPI : pyIter = PI
        wp_walk
        subst hPI
        refine wpAny_pyIter_list hl1 (wpAny_bind (wpAny_runValue ?_))
        have pS : p < s.heap.objs.size := Heap.lt_size hol
        have h3 : A.in1.in1.in1.handled = none := by simp [hh]
        have nI : p ≠ (s.heap.push fr).objs.size := by rw [Heap.size_push]; exact Nat.ne_of_lt (Nat.lt_succ_of_lt pS)
        have nS : s.heap.objs.size ∉ [(s.heap.push fr).objs.size, p] := by
          rw [Heap.size_push]
          simp only [List.mem_cons, List.not_mem_nil, or_false, not_or]
          exact ⟨Nat.ne_of_lt (Nat.lt_succ_self _), Nat.ne_of_gt pS⟩
        have vals : ∀ (i : Nat) (v : Value), items[i]? = some v → ∃ k t, xs[i]? = some k ∧ v = .str k t := fun i v hv => by
          have hi : i < xs.length := by rw [← isz]; exact (Array.getElem?_eq_some_iff.mp hv).1
          obtain ⟨t, e⟩ := SS.strs_at hit i v (by rw [Array.getElem?_toList]; exact hv)
          refine ⟨xs[i], t, List.getElem?_eq_getElem hi, ?_⟩
          rw [e, List.getD_eq_getElem?_getD, List.getElem?_eq_getElem hi]; rfl
        have get0 : ((s.heap.push fr).push { cls := .type "list_iterator", data := .fields #[.ref p, .int 0 0] }).get? s.heap.objs.size = some fr := Heap.get?_push_of_some _ hS
        refine nm_loop ((Walks.list h3 _ p nI items).toS) s.heap.objs.size nS xs isz room vals (items.size - 0) 0 _ (by omega) (Nat.zero_le _)
          ⟨⟨_, Heap.get?_push_size _ rfl, rfl, rfl⟩, (hl1.push _)⟩ ⟨[], Nat.le_refl 0, nm_fresh get0, fun j => by simp⟩ fun s' l mv hl hS' hm => ?_
        obtain ⟨h', g2, d', tk', os'⟩ := s'
        have eg : g2 = s.gens := mv.gens
        have ed : d' = s.drawn := mv.drawn
        have eo : os' = s.os := mv.os
        subst eg ed eo
        show wpAny _ _ _ _ _ _
        refine wpAny_pure (show wpAny _ _ (ret Value.none) _ _ _ from ?_)
        rw [isz] at hl
        refine wpAny_pure ⟨rfl, h', tk', l, rfl, hS', hl, hm, fun b o e => ?_⟩
        have b0 : b < s.heap.objs.size := Heap.lt_size e
        have b2 : b ≠ (s.heap.push fr).objs.size := by rw [Heap.size_push]; exact Nat.ne_of_lt (Nat.lt_succ_of_lt b0)
        exact mv.heap b o (by simp only [List.mem_cons, List.not_mem_nil, or_false, not_or]; exact ⟨Nat.ne_of_lt b0, b2⟩) (Heap.get?_push_of_some _ (Heap.get?_push_of_some _ e))
      · cases r2 with
        | error e => exact hr2
        | ok fl2 =>
          cases fl2 with
          | ret r =>
            obtain ⟨rfl, h', tk, l, rfl, q1, q2, q3, q4⟩ := hr2
            repeat (any_goals (first | assumption | wp_step))
            exact h _ _ _ q1 q2 q3 q4
          | _ => exact hr2.elim
    | _ => exact hr.elim
/-- sorted(names), the set of fewer than 64 -/
theorem nm_sorted {Q : Value → Shared → Prop} (R : NmR P w s.heap a l) (hh : A.handled = none) (h64 : l.length < 64)
    (fin : ∀ s' p (out : Array Value) (c : Nat) (ys : List Str), (∀ b o, s.heap.get? b = some o → s'.heap.get? b = some o) → s'.gens = s.gens → s'.os = s.os → s.heap.objs.size ≤ p →
      s'.heap.get? p = some (seqObj "list" out c) → StrsAre out.toList ys → ys.Perm l → sortedS ys = true → Q (.ref p) s') :
    wpAny (model P w) A (call (.builtin "sorted") [.ref a]) Q E s := by
  obtain ⟨⟨es, ep, t⟩, h1, h2, h3, h4, h5⟩ := R
  have hsz : es.size = l.length := h2.sz
  refine (Calls.call_function_entry (kind_sorted) plain_sorted entry_sorted (args_sorted1 _) ?_)
  unfold Builtin.«sorted»
  refine wpAny_bind (m := checkCount "sorted" 1 1 _) (wpAny_pure (wpAny_bind (collect_set (A := A.in1) hh ⟨_, h1, rfl, rfl⟩ h2.fit (by rw [hsz]; exact Nat.lt_trans h64 (by decide)) h4 h5 fun s1 vs q1 q2 q3 q4 pm => ?_)))
  have hvl : vs.length = l.length := by rw [pm.length_eq, List.length_map, Array.length_toList]; exact hsz
  have isS : ∀ v ∈ vs, ∃ x u, v = .str x u := fun v hv => by
    obtain ⟨e, he, q⟩ := List.mem_map.mp (pm.mem_iff.mp hv)
    obtain ⟨⟨k, hk, _⟩, _⟩ := h2.el e he
    obtain ⟨u, ev⟩ := Value.isStrOf_shape (x := k) (v := e.2) hk
    exact ⟨k, u, q ▸ ev⟩
  have hS := names_are vs isS
  have hpl : (vs.map nameV).Perm l := perm_of l _ h3 (fun k hk => by
    obtain ⟨e, he, q⟩ := (h2.mem k).mp hk
    obtain ⟨u, ev⟩ := Value.isStrOf_shape (x := k) (v := e.2) q
    exact List.mem_map.mpr ⟨e.2, pm.mem_iff.mpr (List.mem_map.mpr ⟨e, he, rfl⟩), by rw [ev]; rfl⟩) (by rw [List.length_map, hvl]; exact Nat.le_refl _)
  refine wpAny_bind (wpAny_newList (?_) (by rw [hvl, sizeLine_eq]; omega))
  have hoL : (s1.heap.push (seqObj "list" vs.toArray 0)).get? s1.heap.objs.size = some (seqObj "list" vs.toArray 0) := Heap.get?_push_size _ (rfl)
  refine wpAny_bind (wpAny_holding (wpAny_call_entry slot_list_sort ⟨_, hoL, rfl⟩ entry_list_sort
    (list_sort_treeK strKind_oneLt (s := { s1 with heap := s1.heap.push (seqObj "list" vs.toArray 0) }) hoL hS.keysOf (fun v1 v2 rest e => keyKind_strs (by rw [← e]; exact hS)) (by rw [hvl]; exact h64) fun st hp hs => ⟨_, rfl, ?_⟩) (args_list_sort _)))
  obtain ⟨ys, g1, g2, g3⟩ := sorted_out_str hS hp hs
  obtain ⟨c, hc⟩ := sortedHeap_at (vs := vs) (out := (arrOf st).map (·.2)) hoL
  refine wpAny_pure ⟨_, rfl, fin _ s1.heap.objs.size ((arrOf st).map (·.2)) c ys (fun b u e => ?_) q3 q4 q2 hc g1 (g2.trans hpl) g3⟩
  have q := q1 b u e
  have lt := Heap.lt_size q
  rw [(sortedHeap_old (Nat.ne_of_lt lt) (by rw [size_push']; exact Nat.lt_succ_of_lt lt))]
  exact (Heap.get?_push_of_some _ q)
end
end DN

set_option Elab.async false
set_option linter.all false
set_option maxRecDepth 100000
set_option maxHeartbeats 4000000
/-! DL18: sorted(set(names)) over data. -/
namespace DN
open PySem PySem.Spec PyProof.Rows L2 PySem.Froz
def NmO (P : Program) (w : World) (a : Addr) (l : List Str) : HO := .ext fun h => NmR P w h a l
theorem nmO_new {P : Program} {w : World} {H : Hp} {h : Heap} {a : Addr} {l : List Str} (R : NmR P w h a l) : ObjOk P w H h a (NmO P w a l) := by
  have ⟨D, ho, _⟩ := R
  exact ⟨R, ⟨_, ho⟩, fun _ _ p k => p.move k⟩
section
variable {X : Cx}
theorem nmO_get {pins : List (Addr × Obj)} {σ : L2.St} {H : Hp} {s : Shared} {a : Addr} {l : List Str} (I : Inv X pins σ H s) (ha : H a = some (NmO X.prog X.w a l)) : NmR X.prog X.w s.heap a l := (I.hok a _ ha).1
def rSetN (X : Cx) : List V → Hp → VK → Prop := fun xs H Q => ∃ (p : Addr) (ys : List Str), xs = [.ref p] ∧ SqL X.K H p (ys.map V.str) ∧ ys.length < 63 ∧
  ∀ a l, H a = none → l.length ≤ ys.length → l.Nodup → (∀ j, j ∈ l ↔ j ∈ ys) → Q (.ref a) (upd H a (NmO X.prog X.w a l))
theorem cr_setN (hc : X.calm = true) : CallR X (.type "set") (rSetN X) := by
  intro pins s σ H xs us Q I r ⟨p, ys, ex, hq, hl, q⟩
  subst ex
  obtain ⟨u, eu, rx⟩ := vals1 r
  subst eu
  cases rx
  obtain ⟨its, rv, pl, hz⟩ := I.list hq
  have hp : s.heap.IsList p its.toArray := let ⟨o, n, h1, h2, _, h4⟩ := pl; ⟨o, h1, h2, n, h4⟩
  refine nm_call ys (I.ok.hd hc) hp (by rw [List.toList_toArray]; exact strs_of_vals rv) (Nat.lt_trans (Nat.succ_lt_succ hl) (by decide)) fun h' tk l R h1 h2 k => ?_
  have nd : l.Nodup := let ⟨_, _, _, z, _⟩ := R; z
  exact ⟨.ref _, upd H s.heap.objs.size (NmO X.prog X.w s.heap.objs.size l), I.laid (t' := tk) k (Nat.le_refl _) (nmO_new R), rfl, q _ l (I.hok.fresh (Nat.le_refl _)) h1 nd h2⟩
def rSortN (X : Cx) : List V → Hp → VK → Prop := fun xs H Q => ∃ (a : Addr) (l : List Str), xs = [.ref a] ∧ H a = some (NmO X.prog X.w a l) ∧ l.length < 63 ∧
  ∀ ys p, ys.Perm l → sortedS ys = true → H p = none → Q (.ref p) (upd H p (.lst (ys.map V.str)))
theorem cr_sortN (hc : X.calm = true) : CallR X (.builtin "sorted") (rSortN X) := by
  intro pins s σ H xs us Q I r ⟨a, l, ex, ha, hl, q⟩
  subst ex
  obtain ⟨u, eu, rx⟩ := vals1 r
  subst eu
  cases rx
  refine nm_sorted (nmO_get I ha) (I.ok.hd hc) (Nat.lt_trans hl (by decide)) fun s' p out c ys k g o hp hg hs pm srt => ?_
  have len : (ys.map V.str).length ≤ sizeLine := by rw [List.length_map, pm.length_eq, sizeLine_eq]; omega
  have hn : H p = none := I.hok.fresh hp
  have J : Inv X pins σ (upd H p (.lst (ys.map V.str))) { s with heap := s'.heap, gens := s'.gens, drawn := s'.drawn, toks := s'.toks } :=
    I.call (ch := []) (Un.laid k hp hn) (I.hok.laid k hp ⟨len, out.toList, c, vals_of_strs hs, hg⟩) (by rw [g]; exact I.bare) (fun _ z => nomatch z)
  have e : s' = { s with heap := s'.heap, gens := s'.gens, drawn := s'.drawn, toks := s'.toks } := by
    cases s'; cases s; cases o; rfl
  rw [e]
  exact ⟨.ref p, _, J, rfl, q ys p pm srt hn⟩
end
/-! ### the names in order, plain -/
def dd : List Str → List Str
  | [] => []
  | x :: xs => if x ∈ dd xs then dd xs else x :: dd xs
theorem dd_mem : ∀ (xs : List Str) (j : Str), j ∈ dd xs ↔ j ∈ xs
  | [], j => Iff.rfl
  | x :: xs, j => by
    unfold dd
    split
    · rename_i h
      rw [dd_mem xs j, List.mem_cons]
      exact ⟨.inr, fun z => z.elim (fun e => e ▸ (dd_mem xs x).mp h) id⟩
    · rw [List.mem_cons, List.mem_cons, dd_mem xs j]
theorem dd_nodup : ∀ xs : List Str, (dd xs).Nodup
  | [] => List.nodup_nil
  | x :: xs => by
    unfold dd
    split
    · exact dd_nodup xs
    · rename_i h
      exact List.nodup_cons.mpr ⟨h, dd_nodup xs⟩
theorem dd_len : ∀ xs : List Str, (dd xs).length ≤ xs.length
  | [] => Nat.le_refl _
  | x :: xs => by
    have h := dd_len xs
    unfold dd
    split
    · rw [List.length_cons]; omega
    · rw [List.length_cons, List.length_cons]; omega
def leS (a b : Str) : Bool := !ltCps b.cps.toList a.cps.toList
theorem leS_iff (a b : Str) : leS a b = true ↔ a.cps.toList ≤ b.cps.toList := by
  unfold leS
  rw [PyProof.Rows.ltCps_eq]
  simp
theorem leS_trans (a b c : Str) (h : leS a b = true) (h' : leS b c = true) : leS a c = true := (leS_iff a c).mpr (List.le_trans ((leS_iff a b).mp h) ((leS_iff b c).mp h'))
theorem leS_total (a b : Str) : (leS a b || leS b a) = true := by
  rw [Bool.or_eq_true, leS_iff, leS_iff]
  exact List.le_total _ _
theorem leS_anti (a b : Str) (h : leS a b = true) (h' : leS b a = true) : a = b := by
  have e := List.le_antisymm ((leS_iff a b).mp h) ((leS_iff b a).mp h')
  obtain ⟨⟨x⟩⟩ := a
  obtain ⟨⟨y⟩⟩ := b
  have : x = y := e
  rw [this]
theorem sorted_pw : ∀ ys : List Str, sortedS ys = true → ys.Pairwise fun a b => leS a b = true
  | [], _ => List.Pairwise.nil
  | x :: ys, h => by
    have key : ∀ (p : Str) (l : List Str), risingS p l = true → (p :: l).Pairwise fun a b => leS a b = true := by
      intro p l
      induction l generalizing p with
      | nil => intro _; exact List.pairwise_singleton _ _
      | cons y l ih =>
        intro h
        have h' : (leS p y && risingS y l) = true := h
        rw [Bool.and_eq_true] at h'
        have q := ih y h'.2
        refine List.pairwise_cons.mpr ⟨fun z hz => ?_, q⟩
        rcases List.mem_cons.mp hz with rfl | hz
        · exact h'.1
        · exact leS_trans _ _ _ h'.1 ((List.pairwise_cons.mp q).1 z hz)
    exact key x ys h
theorem nodup_len : ∀ (l ns : List Str), l.Nodup → (∀ k ∈ l, k ∈ ns) → l.length ≤ ns.length
  | [], _, _, _ => Nat.zero_le _
  | k :: l, ns, nd, hs => by
    obtain ⟨n1, n2⟩ := List.nodup_cons.mp nd
    have hk : k ∈ ns := hs k (List.mem_cons_self ..)
    have h := nodup_len l (ns.erase k) n2 fun j hj => (List.mem_erase_of_ne (fun z : j = k => n1 (z ▸ hj))).mpr (hs j (List.mem_cons_of_mem _ hj))
    have pos : 0 < ns.length := List.length_pos_of_mem hk
    rw [List.length_erase_of_mem hk] at h
    rw [List.length_cons]
    omega
/-- the names of a list, each once, in order -/
def sortU (xs : List Str) : List Str := (dd xs).mergeSort leS
theorem sortU_eq {xs l ys : List Str} (nd : l.Nodup) (hm : ∀ j, j ∈ l ↔ j ∈ xs) (pm : ys.Perm l) (hs : sortedS ys = true) : ys = sortU xs := by
  have p1 : (sortU xs).Perm (dd xs) := List.mergeSort_perm _ _
  have p2 : (sortU xs).Pairwise fun a b => leS a b = true := List.pairwise_mergeSort (le := leS) leS_trans leS_total (dd xs)
  have p3 : l.Perm (dd xs) := by
    have h1 : ∀ k ∈ dd xs, k ∈ l := fun k hk => (hm k).mpr ((dd_mem xs k).mp hk)
    have h2 : ∀ k ∈ l, k ∈ dd xs := fun k hk => (dd_mem xs k).mpr ((hm k).mp hk)
    have l1 : l.length ≤ (dd xs).length := nodup_len l _ nd h2
    exact perm_of (dd xs) l (dd_nodup xs) h1 l1
  exact List.Perm.eq_of_pairwise (le := fun a b => leS a b = true) (fun a b _ _ => leS_anti a b) (sorted_pw ys hs) p2 (pm.trans (p3.trans p1.symm))
end DN
namespace DL
open PySem PySem.Spec L2
def strL : List D → Option (List Str)
  | [] => some []
  | .str x :: ds => (strL ds).map (x :: ·)
  | _ :: _ => none
theorem strL_rps {K : PySem.W.Frag} {CA : Ly} {F : Addr → Prop} {μ : List Addr} {H : Hp} : ∀ {ds : List D} {vs : List V} {xs : List Str}, Rps K CA F μ H ds vs → strL ds = some xs → vs = xs.map V.str
  | [], [], xs, _, e => by cases e; rfl
  | [], _ :: _, _, h, _ => h.elim
  | d :: ds, [], _, h, _ => h.elim
  | d :: ds, v :: vs, xs, h, e => by
    cases d with
    | str x =>
      have e2 : (strL ds).map (x :: ·) = some xs := e
      cases q : strL ds with
      | none => rw [q] at e2; cases e2
      | some ys =>
        rw [q] at e2
        have e3 : x :: ys = xs := Option.some.inj e2
        rw [← e3, List.map_cons, ← strL_rps h.2 q, show v = V.str x from h.1]
    | _ => cases e
theorem rps_strs {K : PySem.W.Frag} {CA : Ly} {F : Addr → Prop} {μ : List Addr} {H : Hp} : ∀ xs : List Str, Rps K CA F μ H (xs.map D.str) (xs.map V.str)
  | [] => trivial
  | _ :: xs => ⟨rfl, rps_strs xs⟩
def mSortSet (m : ME) : ME := fun ρ bx => (m ρ bx).bind fun r b => match r.d.sL b with
  | some ds => (match strL ds with
    | some xs => if xs.length < 63 then .ok (.new (.lst ((DN.sortU xs).map .str))) b else .stk
    | none => .stk)
  | none => .stk
section
variable {X : Cx} {CA : Ly} {W : WX} {e : Expr} {m : ME} {p1 p2 pos pos2 : Pos}
theorem se_sortSet (hc : X.calm = true) (h : SE X CA W e m) (g1 : Gl X "sorted") (g2 : Gl X "set") (m1 : X.mg "sorted" = none) (m2 : X.mg "set" = none)
    (hs : starEach [e] X.env = [(false, eval e X.env)] := by rfl) (hs2 : starEach [Expr.Call (.Name "set" p2) [e] [] pos2] X.env = [(false, eval (Expr.Call (.Name "set" p2) [e] [] pos2) X.env)] := by rfl) :
    SE X CA W (.Call (.Name "sorted" p1) [.Call (.Name "set" p2) [e] [] pos2] [] pos) (mSortSet m) := by
  obtain ⟨te, t1, t2⟩ := h.dat
  have i1 := pe_callTy (x := "set") (p := p2) (pos := pos2) (DN.cr_setN hc) g2 m2 (by rfl) (pa_cons t1 pa_nil hs) (he := hs) (hpl := rfl)
  have i2 := pe_callB (x := "sorted") (p := p1) (pos := pos) (DN.cr_sortN hc) g1 m1 (by rfl) (pa_cons i1 pa_nil hs2) (he := hs2) (hpl := rfl)
  refine ⟨_, i2, fun ρ bx F μ σ H Q s n o => t2 ρ bx F μ σ H _ s n ?_⟩
  unfold mSortSet at o
  cases q : m ρ bx with
  | stk => rw [q] at o; exact o
  | exn c ns ds b => rw [q] at o; exact o
  | ok r b =>
    rw [q] at o
    intro v F1 H1 ex1 s1 rr
    simp only [Out.bind_ok] at o
    cases q2 : r.d.sL b with
    | none => simp only [q2] at o; exact o.elim
    | some ds =>
      simp only [q2] at o
      cases q3 : strL ds with
      | none => simp only [q3] at o; exact o.elim
      | some xs =>
        simp only [q3] at o
        by_cases hl : xs.length < 63
        · rw [if_pos hl] at o
          obtain ⟨a, vs, h1, h2, h3⟩ := sL_at s1 rr q2
          have ev := strL_rps h3 q3
          subst h1 ev
          refine ⟨a, xs, rfl, h2, hl, fun a2 l hn hle nd hm => ⟨a2, l, rfl, upd_same, Nat.lt_of_le_of_lt hle hl, fun ys p pm srt hp => ?_⟩⟩
          have ey := DN.sortU_eq nd hm pm srt
          subst ey
          have e2 := Ext.tmp (F := F1) (μ := μ) (o := DN.NmO X.prog X.w a2 l) hn
          have s2 := s1.tmp (o := DN.NmO X.prog X.w a2 l) hn
          have e3 := Ext.tmp (F := F1) (μ := μ) (o := .lst ((DN.sortU xs).map V.str)) hp
          have nm := s2.notIn hp
          exact o (.ref p) F1 _ (ex1.trans (e2.trans e3)) (s2.tmp hp) ⟨p, rfl, (ex1.trans e2).back (.of hp) nm, nm, s2.notF hp, _, upd_same, rps_strs _⟩
        · rw [if_neg hl] at o; exact o.elim
end
end DL

set_option Elab.async false
set_option linter.all false
set_option maxRecDepth 100000
set_option maxHeartbeats 4000000
/-! DL19: dicts. -/
namespace DL
open PySem PySem.Spec L2
/-! ### what a dict is -/
def D.dkB (bx : List D) : D → Option (List Key × List D)
  | .dk ks ds => some (ks, ds)
  | .box n => match bx[n]? with
    | some (.dk ks ds) => some (ks, ds)
    | _ => none
  | _ => none
def keyD : D → Option Key
  | .int i => some (.inl i)
  | .str x => some (.inr x)
  | _ => none
def kD : Key → D
  | .inl i => .int i
  | .inr x => .str x
def getK (k : Key) : List Key → List D → Option D
  | k1 :: ks, d :: ds => if k1 = k then some d else getK k ks ds
  | _, _ => none
def hasK (k : Key) (ks : List Key) : Bool := ks.any fun x => decide (x = k)
/-- the keys and the values behind d[k] = v -/
def newKs (k : Key) (ks : List Key) : List Key := if hasK k ks = true then ks else ks ++ [k]
def putV {α : Type} (k : Key) (v : α) : List Key → List α → List α
  | k1 :: ks, x :: xs => (if k1 = k then v else x) :: putV k v ks xs
  | _, _ => []
def newVs {α : Type} (k : Key) (v : α) (ks : List Key) (xs : List α) : List α := if hasK k ks = true then putV k v ks xs else xs ++ [v]
theorem putV_len {α : Type} (k : Key) (v : α) : ∀ (ks : List Key) (xs : List α), ks.length = xs.length → (putV k v ks xs).length = xs.length
  | [], [], _ => rfl
  | _ :: ks, _ :: xs, h => by
    have := putV_len k v ks xs (by simpa using h)
    simp [putV, this]
theorem newKV_len {α : Type} (k : Key) (v : α) {ks : List Key} {xs : List α} (h : ks.length = xs.length) : (newKs k ks).length = (newVs k v ks xs).length := by
  unfold newKs newVs
  split
  · rw [putV_len k v ks xs h, h]
  · rw [List.length_append, List.length_append, h]; rfl
theorem putV_zip (k : Key) (v : V) : ∀ (ks : List Key) (vs : List V), ks.length = vs.length → (ks.zip vs).map (fun kv => if kv.1 = k then (kv.1, v) else kv) = ks.zip (putV k v ks vs)
  | [], [], _ => rfl
  | k1 :: ks, x :: vs, h => by
    have ih := putV_zip k v ks vs (by simpa using h)
    by_cases e : k1 = k <;> simp [putV, e, ih]
theorem any_zip (k : Key) : ∀ (ks : List Key) (vs : List V), ks.length = vs.length → ((ks.zip vs).any fun kv => decide (kv.1 = k)) = hasK k ks
  | [], [], _ => rfl
  | k1 :: ks, x :: vs, h => by
    have ih := any_zip k ks vs (by simpa using h)
    rw [List.zip_cons_cons, List.any_cons, ih]
    rfl
theorem putK_zip (k : Key) (v : V) (ks : List Key) (vs : List V) (h : ks.length = vs.length) : putK (ks.zip vs) k v = (newKs k ks).zip (newVs k v ks vs) := by
  unfold putK newKs newVs
  rw [any_zip k ks vs h]
  by_cases e : hasK k ks = true
  · rw [if_pos e, if_pos e, if_pos e, putV_zip k v ks vs h]
  · rw [if_neg e, if_neg e, if_neg e, List.zip_append h]; rfl
section
variable {K : PySem.W.Frag} {CA : Ly} {F : Addr → Prop} {μ : List Addr} {H : Hp} {bx : List D}
theorem dk_at {d : D} {v : V} {ks : List Key} {ds : List D} (s : Sx K CA F μ H bx) (r : Rp K CA F μ H d v) (e : d.dkB bx = some (ks, ds)) :
    ∃ a vs, v = .ref a ∧ H a = some (.dK (ks.zip vs)) ∧ ks.length = ds.length ∧ Rps K CA F μ H ds vs := by
  cases d with
  | dk ks' ds' =>
    cases e
    obtain ⟨a, vs, q1, _, q2, q3, q4⟩ := r
    exact ⟨a, vs, q1, q2, q3, q4⟩
  | box n =>
    obtain ⟨a, q1, q2⟩ := r
    unfold D.dkB at e
    cases hb : bx[n]? with
    | none => simp only [hb] at e; cases e
    | some d' => cases d' with
      | dk ks' ds' =>
        simp only [hb] at e
        cases e
        obtain ⟨vs, w1, w2, w3⟩ := s.at_ n _ a hb q2
        exact ⟨a, vs, q1, w1, w2, w3⟩
      | _ => simp only [hb] at e; cases e
  | _ => cases e
theorem key_v {d : D} {v : V} {k : Key} (r : Rp K CA F μ H d v) (e : keyD d = some k) : v = kV k := by
  cases d with
  | int i => cases e; exact r
  | str x => cases e; exact r
  | _ => cases e
theorem getK_v {k : Key} : ∀ {ks : List Key} {ds : List D} {vs : List V} {d : D}, Rps K CA F μ H ds vs → getK k ks ds = some d → ∃ v, valV (ks.zip vs) k = some v ∧ Rp K CA F μ H d v
  | k1 :: ks, d1 :: ds, v1 :: vs, d, r, e => by
    unfold getK at e
    by_cases q : k1 = k
    · rw [if_pos q] at e
      cases e
      exact ⟨v1, valV_pos (p := (k1, v1)) q, r.1⟩
    · rw [if_neg q] at e
      obtain ⟨v, h1, h2⟩ := getK_v r.2 e
      exact ⟨v, by rw [List.zip_cons_cons, valV_neg (p := (k1, v1)) q]; exact h1, h2⟩
  | [], _, _, _, _, e => by cases e
  | _ :: _, [], _, _, _, e => by cases e
  | _ :: _, _ :: _, [], _, r, _ => r.elim
theorem putV_rps {k : Key} {d : D} {v : V} (rv : Rp K CA F μ H d v) : ∀ (ks : List Key) {ds : List D} {vs : List V}, Rps K CA F μ H ds vs → Rps K CA F μ H (putV k d ks ds) (putV k v ks vs)
  | [], _, _, _ => trivial
  | _ :: _, [], [], _ => trivial
  | k1 :: ks, d1 :: ds, v1 :: vs, r => by
    have ih := putV_rps (k := k) rv ks r.2
    unfold putV
    by_cases q : k1 = k
    · rw [if_pos q, if_pos q]; exact ⟨rv, ih⟩
    · rw [if_neg q, if_neg q]; exact ⟨r.1, ih⟩
  | _ :: _, [], _ :: _, r => r.elim
  | _ :: _, _ :: _, [], r => r.elim
theorem newVs_rps {k : Key} {d : D} {v : V} (rv : Rp K CA F μ H d v) (ks : List Key) {ds : List D} {vs : List V} (r : Rps K CA F μ H ds vs) : Rps K CA F μ H (newVs k d ks ds) (newVs k v ks vs) := by
  unfold newVs
  split
  · exact putV_rps rv ks r
  · exact r.append ⟨rv, trivial⟩
theorem rps_keys : ∀ ks : List Key, Rps K CA F μ H (ks.map kD) (ks.map kV)
  | [] => trivial
  | .inl _ :: ks => ⟨rfl, rps_keys ks⟩
  | .inr _ :: ks => ⟨rfl, rps_keys ks⟩
theorem keys_zip : ∀ (ks : List Key) (vs : List V), ks.length = vs.length → ((ks.zip vs).map fun kv => kV kv.1) = ks.map kV
  | [], [], _ => rfl
  | k :: ks, v :: vs, h => by
    have ih := keys_zip ks vs (by simpa using h)
    rw [List.zip_cons_cons, List.map_cons, ih]; rfl
end
section
variable {X : Cx} {CA : Ly} {W : WX} {a b e o i : Expr} {pos pos2 : Pos}
/-! ### d[k] -/
def dgD : D → D → List D → Out R := fun x y bx => match x.dkB bx, keyD y with
  | some (ks, ds), some k => (match getK k ks ds with
    | some d => OK d bx
    | none => .stk)
  | _, _ => .stk
def rDG : R2 := fun x y H Q => ∃ a v, x = .ref a ∧ DGet H a y (some v) ∧ Q v H
theorem dg_ok : ∀ x y vx vy bx F μ σ H Q, Sx X.K CA F μ H bx → Rp X.K CA F μ H x vx → Rp X.K CA F μ H y vy → OkG X.K CA W F μ σ H (fun F' H' => RRv X.K CA F' μ H H') (dgD x y bx) Q → rDG vx vy H Q := by
  intro x y vx vy bx F μ σ H Q s rx ry o
  unfold dgD at o
  cases q : x.dkB bx with
  | none => simp only [q] at o; exact o.elim
  | some t =>
    obtain ⟨ks, ds⟩ := t
    cases q2 : keyD y with
    | none => simp only [q, q2] at o; exact o.elim
    | some k =>
      simp only [q, q2] at o
      cases q3 : getK k ks ds with
      | none => simp only [q3] at o; exact o.elim
      | some d =>
        simp only [q3] at o
        obtain ⟨p, vs, h1, h2, h3, h4⟩ := dk_at s rx q
        obtain ⟨v, g1, g2⟩ := getK_v h4 q3
        have ey := key_v ry q2
        subst h1 ey
        exact ⟨p, v, rfl, g1 ▸ DGet.k h2, okV o s g2⟩
theorem se_dget {ma mb : ME} (hu : X.A.units + 64 < cLine) (ha : SE X CA W a ma) (hb : SE X CA W b mb) (hs : NoSl b := by exact fun _ _ => rfl) : SE X CA W (.Subscript a b pos) (mBin dgD ma mb) := by
  obtain ⟨ta, a1, a2⟩ := ha.dat
  obtain ⟨tb, b1, b2⟩ := hb.dat
  exact ⟨_, pe_dget (by omega) a1 b1 hs, bin_ok (r := rDG) a2 b2 dg_ok⟩
/-! ### d[k] = v -/
def setK (o i v : D) (bx : List D) : Option (List D) := match o, keyD i with
  | .box n, some k => (match bx[n]? with
    | some (.dk ks ds) => if ks.length < sizeLine then some (bx.set n (.dk (newKs k ks) (newVs k v ks ds))) else none
    | _ => none)
  | _, _ => none
def mSetK (m mo mi : ME) : MS := fun ρ bx => liftE (m ρ bx) ρ fun v b => liftE (mo ρ b) ρ fun o b1 => liftE (mi ρ b1) ρ fun i b2 => match setK o.d i.d v.d b2 with
  | some b3 => .nx ρ b3
  | none => .stk
theorem okBK {F : Addr → Prop} {μ : List Addr} {H : Hp} {bx ds : List D} {ks : List Key} {vs : List V} {n : Nat} {p : Addr} (s : Sx X.K CA F μ H bx) (hp : μ[n]? = some p) (hl : ks.length = ds.length) (r : Rps X.K CA F μ H ds vs) :
    Ext F μ H F (upd H p (.dK (ks.zip vs))) ∧ Sx X.K CA F μ (upd H p (.dK (ks.zip vs))) (bx.set n (.dk ks ds)) := by
  have pm : p ∈ μ := List.mem_of_getElem? hp
  have hF := s.dj p pm
  have st : Stay F H (upd H p (.dK (ks.zip vs))) := fun a u fa e => by rw [upd_ne (fun (z : a = p) => hF (z ▸ fa))]; exact e
  refine ⟨.all (fun _ z => z) (fun _ z => .inl z) fun a u e hm => by rw [upd_ne (fun (z : a = p) => hm (z ▸ pm))]; exact e, ⟨by rw [List.length_set]; exact s.len, fun m d a h1 h2 => ?_, s.nd, s.dj, fun a fa => ?_, fun a u fa e => ?_, Tabs.keep s.tb fun b u e z => ?_⟩⟩
  · by_cases e : n = m
    · subst e
      rw [hp] at h2; cases h2
      have hn : n < bx.length := by
        have := (List.getElem?_eq_some_iff.mp h1).1
        rwa [List.length_set] at this
      rw [List.getElem?_set_self hn] at h1
      cases h1
      exact ⟨vs, upd_same, hl, r.mono (fun _ z => z) (fun _ _ z => z) st⟩
    · rw [List.getElem?_set_ne e] at h1
      have ne : a ≠ p := fun z => by
        subst z
        obtain ⟨i1, e1⟩ := List.getElem?_eq_some_iff.mp hp
        obtain ⟨i2, e2⟩ := List.getElem?_eq_some_iff.mp h2
        exact e ((List.getElem_inj s.nd).mp (e1.trans e2.symm))
      exact At.mono (h := s.at_ m d a h1 h2) (hF := fun _ z => z) (hm := fun _ _ z => z) (hs := st) (ha := fun u q => by rw [upd_ne ne]; exact q)
  · obtain ⟨u, q⟩ := s.tr a fa
    exact ⟨u, by rw [upd_ne (fun (z : a = p) => hF (z ▸ fa))]; exact q⟩
  · rw [upd_ne (fun (z : a = p) => hF (z ▸ fa))] at e
    exact s.ft a u fa e
  · rw [upd_ne (fun (q : b = p) => ?_)]
    · exact e
    · obtain ⟨n', hn', e2⟩ := List.mem_iff_getElem.mp pm
      have at_ := s.at_ n' _ p (List.getElem?_eq_getElem (s.len ▸ hn')) (by rw [List.getElem?_eq_getElem hn', e2])
      exact at_.plain u (q ▸ e) z
theorem ss_setK {pos' : Pos} {m mo mi : ME} (hu : X.A.units + 64 < cLine) (h : SE X CA W e m) (ho : SE X CA W o mo) (hi : SE X CA W i mi) (hs : swapsWith e (some (.Subscript o i pos')) pos.line X.env = pure false := by rfl) :
    SS X CA W (.Assign [.Subscript o i pos'] e pos) (mSetK m mo mi) := by
  obtain ⟨t, t1, t2⟩ := h.dat
  obtain ⟨u, u1, u2⟩ := ho.dat
  obtain ⟨w, w1, w2⟩ := hi.dat
  refine ⟨_, ps_dput (by omega) u1 w1 t1 hs, fun ρ bx F μ σ H D s n o => t2 ρ bx F μ σ H _ s n ?_⟩
  have o' : OkS X.K CA W F μ H D (liftE ((m ρ bx).map R.d) ρ fun v b => liftE ((mo ρ b).map R.d) ρ fun o b1 => liftE ((mi ρ b1).map R.d) ρ fun i b2 => match setK o i v b2 with
    | some b3 => .nx ρ b3
    | none => .stk) := by
    rw [liftE_map]
    have e1 : (fun (r : R) b => liftE ((mo ρ b).map R.d) ρ fun o b1 => liftE ((mi ρ b1).map R.d) ρ fun i b2 => match setK o i r.d b2 with
      | some b3 => OutS.nx ρ b3
      | none => .stk) = fun r b => liftE (mo ρ b) ρ fun o b1 => liftE (mi ρ b1) ρ fun i b2 => match setK o.d i.d r.d b2 with
      | some b3 => OutS.nx ρ b3
      | none => .stk := by
      funext r b
      rw [liftE_map]
      congr 1
      funext o b1
      rw [liftE_map]
    rw [e1]
    exact o
  refine OkS.seqE s n o' fun v b vv F1 H1 e1 s1 rv o1 => ?_
  refine u2 ρ b F1 μ σ H1 _ s1 (n.ext s e1) (OkS.seqE s1 (n.ext s e1) (OkS.shiftE e1 s1 o1) fun od b1 ov F2 H2 e2 s2 ro o2 => ?_)
  refine w2 ρ b1 F2 μ σ H2 _ s2 ((n.ext s e1).ext s1 e2) (OkS.seqE s2 ((n.ext s e1).ext s1 e2) (OkS.shiftE e2 s2 o2) fun id b2 iv F3 H3 e3 s3 ri o3 => ?_)
  have o4 := OkS.shiftE e3 s3 o3
  have rv3 := (rv.ext s1 e2).ext s2 e3
  have ro3 := ro.ext s2 e3
  have n3 := ((n.ext s e1).ext s1 e2).ext s2 e3
  cases q : setK od id v b2 with
  | none => rw [q] at o4; exact o4.elim
  | some b3 =>
    rw [q] at o4
    unfold setK at q
    cases od with
    | box k => cases qk : keyD id with
      | none => simp only [qk] at q; cases q
      | some key =>
        simp only [qk] at q
        cases hb : b2[k]? with
        | none => simp only [hb] at q; cases q
        | some d' => cases d' with
          | dk ks ds =>
            simp only [hb] at q
            by_cases hz : ks.length < sizeLine
            · rw [if_pos hz] at q
              cases q
              obtain ⟨p, q1, q2⟩ := ro3
              obtain ⟨vs, w1, w2, w3⟩ := s3.at_ k _ p hb q2
              have ei := key_v ri qk
              subst q1 ei
              have hlv : ks.length = vs.length := w2.trans w3.length
              have up := okBK s3 q2 (newKV_len key v w2) (newVs_rps rv3 ks w3)
              refine ⟨p, _, rfl, DPut.k w1 (by rw [List.length_zip, ← hlv, Nat.min_self]; exact hz), ?_⟩
              rw [putK_zip key vv ks vs hlv]
              exact o4 σ F3 μ _ up.1.m up.2 (n3.ext s3 up.1)
            · rw [if_neg hz] at q; cases q
          | _ => simp only [hb] at q; cases q
    | _ => cases q
/-! ### dict(d), list(d) -/
def dicD : D → List D → Out R := fun d bx => match d.dkB bx with
  | some (ks, ds) => .ok (.new (.dk ks ds)) bx
  | none => .stk
theorem dc_dict : DCall X CA W (.type "dict") (un1 dicD) := dc1 call_dictD fun d v bx F μ σ H Q s r o => by
  unfold dicD at o
  cases q : d.dkB bx with
  | none => rw [q] at o; exact o.elim
  | some t =>
    obtain ⟨ks, ds⟩ := t
    rw [q] at o
    obtain ⟨a, vs, h1, h2, h3, h4⟩ := dk_at s r q
    refine ⟨a, ks.zip vs, by rw [h1], .inl h2, fun p hp => ?_⟩
    have e2 := Ext.tmp (F := F) (μ := μ) (o := .dK (ks.zip vs)) hp
    exact o (.ref p) F _ e2 (s.tmp hp) ⟨p, rfl, .of hp, s.notIn hp, s.notF hp, vs, upd_same, h3, h4.ext s e2⟩
def keysD : D → List D → Out R := fun d bx => match d.dkB bx with
  | some (ks, _) => .ok (.new (.lst (ks.map kD))) bx
  | none => .stk
theorem dc_keys (hc : X.calm = true) : DCall X CA W (.type "list") (un1 keysD) := dc1 (call_listD hc) fun d v bx F μ σ H Q s r o => by
  unfold keysD at o
  cases q : d.dkB bx with
  | none => rw [q] at o; exact o.elim
  | some t =>
    obtain ⟨ks, ds⟩ := t
    rw [q] at o
    obtain ⟨a, vs, h1, h2, h3, h4⟩ := dk_at s r q
    refine ⟨a, ks.zip vs, by rw [h1], .inl h2, ?_⟩
    rw [keys_zip ks vs (h3.trans h4.length)]
    exact okL o s (rps_keys ks)
end
end DL

set_option Elab.async false
set_option linter.all false
set_option maxRecDepth 100000
set_option maxHeartbeats 4000000
/-! DL20: names in a row of names, extend, [::-1], dict displays, dict of pairs, dicts compared. -/
namespace DL
open PySem PySem.Spec L2
section
variable {X : Cx} {CA : Ly} {W : WX} {e a b : Expr} {pos : Pos}
/-! ### x in names -/
def inS (neg : Bool) : D → D → List D → Out R := fun x y bx => match x, (y.sq bx).bind strL with
  | .str z, some xs => OK (.bl (if neg then !xs.any (· == z) else xs.any (· == z))) bx
  | _, _ => .stk
theorem inV_strs (z : Str) : ∀ xs : List Str, inV (.str z) (xs.map V.str) = xs.any (· == z)
  | [] => rfl
  | x :: xs => by
    have h := inV_strs z xs
    unfold inV at h ⊢
    rw [List.map_cons, List.any_cons, List.any_cons, h]
    rfl
theorem flat_strs : ∀ xs : List Str, (xs.map V.str).all flatV = true
  | [] => rfl
  | _ :: xs => by rw [List.map_cons, List.all_cons, flat_strs xs]; rfl
theorem inS_ok {neg : Bool} : ∀ x y vx vy bx F μ (σ : L2.St) H Q, Sx X.K CA F μ H bx → Rp X.K CA F μ H x vx → Rp X.K CA F μ H y vy → OkG X.K CA W F μ σ H (fun F' H' => RRv X.K CA F' μ H H') (inS neg x y bx) Q → rIn X.K neg vx vy H Q := by
  intro x y vx vy bx F μ σ H Q s rx ry o
  unfold inS at o
  cases x with
  | str z =>
    cases q : y.sq bx with
    | none => simp only [q, Option.bind_none] at o; exact o.elim
    | some ds =>
      simp only [q, Option.bind_some] at o
      cases q2 : strL ds with
      | none => simp only [q2] at o; exact o.elim
      | some xs =>
        simp only [q2] at o
        obtain ⟨p, vs, h1, h2, h3⟩ := sq_at s ry q
        have ev := strL_rps h3 q2
        have ez : vx = V.str z := rx
        subst ev h1 ez
        refine ⟨p, xs.map V.str, rfl, h2, rfl, flat_strs xs, ?_⟩
        rw [inV_strs]
        exact okV o s (by cases neg <;> rfl)
  | _ => exact o.elim
theorem dop_inS : DOp X CA W (compareOp .In) (inS false) := ⟨_, op_in_seq, inS_ok⟩
theorem dop_notInS : DOp X CA W (compareOp .NotIn) (inS true) := ⟨_, op_notIn_seq, inS_ok⟩
/-! ### xs.extend(ys) -/
def extD : D → List D → List D → Out R := fun o ds bx => match o, ds with
  | .box n, [y] => (match bx[n]?, y.hL bx with
    | some (.lst xs), some zs => if xs.length + zs.length ≤ sizeLine then OK .non (bx.set n (.lst (xs ++ zs))) else .stk
    | _, _ => .stk)
  | _, _ => .stk
theorem dml_extend : DMl X CA W "list.extend" extD := by
  refine ⟨_, mt_extend, fun x vx ds vs bx F μ σ H Q s rx rs o => ?_⟩
  unfold extD at o
  cases x with
  | box n =>
    match ds, vs, rs, o with
    | [y], [v], rs, o =>
      simp only at o
      cases hb : bx[n]? with
      | none => simp only [hb] at o; exact o.elim
      | some d' => cases d' with
        | lst xs =>
          cases hy : y.hL bx with
          | none => simp only [hb, hy] at o; exact o.elim
          | some zs =>
            simp only [hb, hy] at o
            obtain ⟨hl, o⟩ := okIf o
            obtain ⟨p, q1, q2⟩ := rx
            obtain ⟨ws, w1, w2⟩ := s.at_ n _ p hb q2
            obtain ⟨p2, us, u1, u2, u3⟩ := hL_at s rs.1 hy
            have up := okB s q2 (w2.append u3)
            subst q1 u1
            exact ⟨p, p2, ws, us, rfl, rfl, w1, u2, by rw [← w2.length, ← u3.length]; exact hl, o .non F _ up.1 up.2 rfl⟩
        | _ => simp only [hb] at o; exact o.elim
    | [], _, _, o => exact o.elim
    | [_], [], rs, _ => exact rs.elim
    | [_], _ :: _ :: _, rs, _ => exact rs.2.elim
    | _ :: _ :: _, _, _, o => exact o.elim
  | _ => exact o.elim
/-! ### xs[::-1] -/
def mRev (m : ME) : ME := fun ρ bx => (m ρ bx).bind fun r b => match r.d.sL b with
  | some ds => .ok (.new (.lst ds.reverse)) b
  | none => .stk
theorem se_rev {k : Nat} {p1 p2 p3 : Pos} {m : ME} (h : SE X CA W e m) : SE X CA W (.Subscript e (.Slice none none (some (.UnaryOp .USub (.Constant (.int 1) k p1) p2)) p3) pos) (mRev m) := by
  obtain ⟨te, t1, t2⟩ := h.dat
  refine ⟨_, pe_revL t1, fun ρ bx F μ σ H Q s n o => t2 ρ bx F μ σ H _ s n ?_⟩
  unfold mRev at o
  have o' : OkG X.K CA W F μ σ H (fun F' H' => RRv X.K CA F' μ H H') (((m ρ bx).map R.d).bind fun d b => match d.sL b with
    | some ds => .ok (.new (.lst ds.reverse)) b
    | none => .stk) Q := by rw [map_bind]; exact o
  refine o'.seq fun d b v F1 H1 e1 s1 rr o1 => ?_
  cases q : d.sL b with
  | none => rw [q] at o1; exact o1.elim
  | some ds =>
    rw [q] at o1
    obtain ⟨p, vs, q1, q2, q3⟩ := sL_at s1 rr q
    exact ⟨p, vs, q1, q2, okL (OkG.shiftR e1 o1) s1 q3.rev⟩
/-! ### {k: v, ..} -/
def mDisp1 (k : Key) (m : ME) : ME := fun ρ bx => (m ρ bx).bind fun x b => .ok (.new (.dk [k] [x.d])) b
def mDisp2 (k k2 : Key) (m m2 : ME) : ME := fun ρ bx => (m ρ bx).bind fun x b => (m2 ρ b).bind fun y b2 => .ok (.new (.dk [k, k2] [x.d, y.d])) b2
/-- a dict that was laid empty ahead of its values -/
theorem okDisp {F F1 : Addr → Prop} {μ : List Addr} {σ : L2.St} {H H1 : Hp} {bx b : List D} {ks : List Key} {ds : List D} {vs : List V} {p : Addr} {Q : VK} (s : Sx X.K CA F μ H bx) (hp : H p = none) (e : Ext F μ (upd H p (.dK [])) F1 H1) (s1 : Sx X.K CA F1 μ H1 b)
    (o : OkG X.K CA W F μ σ H (fun F' H' => RRv X.K CA F' μ H H') (.ok (.new (.dk ks ds)) b) Q) (hl : ks.length = ds.length) (r : Rps X.K CA F1 μ H1 ds vs) : H1 p = some (.dK []) ∧ Q (.ref p) (upd H1 p (.dK (ks.zip vs))) := by
  have nm := s.notIn hp
  have nF := s.notF hp
  have h0 : H1 p = some (.dK []) := e.keep p _ upd_same nm nt_dK
  have nF1 : ¬ F1 p := fun z => (e.fr p z).elim nF fun w => w.1 _ upd_same nt_dK
  have st : Stay F1 H1 (upd H1 p (.dK (ks.zip vs))) := fun a u fa q => by rw [upd_ne (fun (z : a = p) => nF1 (z ▸ fa))]; exact q
  have ex : Ext F μ H F1 (upd H1 p (.dK (ks.zip vs))) := by
    refine ⟨e.up, fun a fa => (e.fr a fa).imp id fun w => ⟨fun u hu nt => ?_, w.2⟩, fun a u hu hm nt => ?_⟩
    · have ne : a ≠ p := fun z => by rw [z, hp] at hu; cases hu
      exact w.1 u (by rw [upd_ne ne]; exact hu) nt
    · have ne : a ≠ p := fun z => by rw [z, hp] at hu; cases hu
      rw [upd_ne ne]
      exact e.keep a u (by rw [upd_ne ne]; exact hu) hm nt
  refine ⟨h0, o (.ref p) F1 _ ex ?_ ⟨p, rfl, .of hp, nm, nF1, vs, upd_same, hl, r.mono (fun _ z => z) (fun _ _ z => z) st⟩⟩
  refine ⟨s1.len, fun m d a h1 h2 => ?_, s1.nd, s1.dj, fun a fa => ?_, fun a u fa q => ?_, Tabs.keep s1.tb fun c u q z => ?_⟩
  · have am : a ∈ μ := List.mem_of_getElem? h2
    have ne : a ≠ p := fun z => nm (z ▸ am)
    exact At.mono (h := s1.at_ m d a h1 h2) (hF := fun _ z => z) (hm := fun _ _ z => z) (hs := st) (ha := fun u q => by rw [upd_ne ne]; exact q)
  · obtain ⟨u, q⟩ := s1.tr a fa
    exact ⟨u, by rw [upd_ne (fun (z : a = p) => nF1 (z ▸ fa))]; exact q⟩
  · rw [upd_ne (fun (z : a = p) => nF1 (z ▸ fa))] at q
    exact s1.ft a u fa q
  · have ne : c ≠ p := fun w => by
      rw [w, h0] at q
      cases q
      rcases z with ⟨ps, z⟩ | ⟨d, w, z⟩ <;> cases z
    rw [upd_ne ne]; exact q
theorem se_disp1 {x : Str} {m : ME} {p1 : Pos} {j1 : Nat} (h : SE X CA W e m) : SE X CA W (.Dict [some (.Constant (.str x) j1 p1)] [e] pos) (mDisp1 (.inr x) m) := by
  obtain ⟨te, t1, t2⟩ := h.dat
  refine ⟨_, pe_disp (pps_cons pe_str t1 pps_nil) rfl rfl (by simp) (by simp), fun ρ bx F μ σ H Q s n o p hp => ?_⟩
  have e0 := Ext.tmp (F := F) (μ := μ) (o := .dK []) hp
  have s0 := s.tmp (o := .dK []) hp
  have n0 := n.ext s e0
  unfold mDisp1 at o
  cases q : m ρ bx with
  | stk => rw [q] at o; exact o.elim
  | exn c ns ds b =>
    rw [q] at o
    refine t2 ρ bx F μ σ _ _ s0 n0 ?_
    rw [q]
    exact fun cls dx F' H' e' s' x => o cls dx F' H' (e0.trans e') s' x
  | ok r b =>
    rw [q] at o
    refine t2 ρ bx F μ σ _ _ s0 n0 ?_
    rw [q]
    intro v F1 H1 e1 s1 rr
    obtain ⟨z1, z2⟩ := okDisp (ks := [.inr x]) (ds := [r.d]) (vs := [v]) s hp e1 s1 o rfl ⟨rr, trivial⟩
    exact ⟨z1, [(.inr x, v)], rfl, by simp, z2⟩
theorem se_disp2 {x x2 : Str} {m m2 : ME} {p1 p2 : Pos} {j1 j2 : Nat} {e2 : Expr} (hne : x ≠ x2) (h : SE X CA W e m) (h2 : SE X CA W e2 m2) :
    SE X CA W (.Dict [some (.Constant (.str x) j1 p1), some (.Constant (.str x2) j2 p2)] [e, e2] pos) (mDisp2 (.inr x) (.inr x2) m m2) := by
  obtain ⟨te, t1, t2⟩ := h.dat
  obtain ⟨ue, u1, u2⟩ := h2.dat
  refine ⟨_, pe_disp (pps_cons pe_str t1 (pps_cons pe_str u1 pps_nil)) rfl rfl (by simp) (by simp), fun ρ bx F μ σ H Q s n o p hp => ?_⟩
  have e0 := Ext.tmp (F := F) (μ := μ) (o := .dK []) hp
  have s0 := s.tmp (o := .dK []) hp
  have n0 := n.ext s e0
  unfold mDisp2 at o
  cases q : m ρ bx with
  | stk => rw [q] at o; exact o.elim
  | exn c ns ds b =>
    rw [q] at o
    refine t2 ρ bx F μ σ _ _ s0 n0 ?_
    rw [q]
    exact fun cls dx F' H' e' s' x => o cls dx F' H' (e0.trans e') s' x
  | ok r b =>
    rw [q] at o
    simp only [Out.bind_ok] at o
    refine t2 ρ bx F μ σ _ _ s0 n0 ?_
    rw [q]
    intro v F1 H1 e1 s1 rr
    have n1 := n0.ext s0 e1
    cases q2 : m2 ρ b with
    | stk => rw [q2] at o; exact o.elim
    | exn c ns ds b2 =>
      rw [q2] at o
      refine u2 ρ b F1 μ σ _ _ s1 n1 ?_
      rw [q2]
      exact fun cls dx F' H' e' s' x => o cls dx F' H' ((e0.trans e1).trans e') s' x
    | ok r2 b2 =>
      rw [q2] at o
      refine u2 ρ b F1 μ σ _ _ s1 n1 ?_
      rw [q2]
      intro v2 F2 H2 e2 s2 rr2
      obtain ⟨z1, z2⟩ := okDisp (ks := [.inr x, .inr x2]) (ds := [r.d, r2.d]) (vs := [v, v2]) s hp (e1.trans e2) s2 o rfl ⟨rr.ext s1 e2, rr2, trivial⟩
      refine ⟨z1, [(.inr x, v), (.inr x2, v2)], rfl, by simp, ?_⟩
      have em : mergeK [] [((.inr x : Key), v), (.inr x2, v2)] = [(.inr x, v), (.inr x2, v2)] := by
        have hk : ¬ ((Sum.inr x : Key) = Sum.inr x2) := fun z => hne (Sum.inr.inj z)
        simp [mergeK, putK, hk, hne]
      rw [em]
      exact z2
/-! ### dict(pairs) -/
def mrg {α : Type} : List Key → List α → List (Key × α) → List Key × List α
  | ks, xs, [] => (ks, xs)
  | ks, xs, (k, x) :: ps => mrg (newKs k ks) (newVs k x ks xs) ps
theorem mrg_v : ∀ (ps : List (Key × V)) (ks : List Key) (vs : List V), ks.length = vs.length → mergeK (ks.zip vs) ps = (mrg ks vs ps).1.zip (mrg ks vs ps).2
  | [], ks, vs, _ => rfl
  | (k, v) :: ps, ks, vs, h => by
    show mergeK (putK (ks.zip vs) k v) ps = _
    rw [putK_zip k v ks vs h]
    exact mrg_v ps _ _ (newKV_len k v h)
def pairD : D → Option (Key × D)
  | .tup [k, d] => (keyD k).map fun k => (k, d)
  | _ => none
def pairsD : List D → Option (List (Key × D))
  | [] => some []
  | d :: ds => match pairD d, pairsD ds with
    | some p, some ps => some (p :: ps)
    | _, _ => none
/-- pairs of data stand for pairs of values -/
def PPair (K : PySem.W.Frag) (CA : Ly) (F : Addr → Prop) (μ : List Addr) (H : Hp) : List (Key × D) → List (Key × V) → Prop
  | [], [] => True
  | p :: ps, q :: qs => p.1 = q.1 ∧ Rp K CA F μ H p.2 q.2 ∧ PPair K CA F μ H ps qs
  | _, _ => False
theorem mrg_rps {K : PySem.W.Frag} {F : Addr → Prop} {μ : List Addr} {H : Hp} : ∀ (ps : List (Key × D)) (qs : List (Key × V)) (ks : List Key) (ds : List D) (vs : List V), PPair K CA F μ H ps qs → ks.length = ds.length → Rps K CA F μ H ds vs →
    (mrg ks ds ps).1 = (mrg ks vs qs).1 ∧ (mrg ks ds ps).1.length = (mrg ks ds ps).2.length ∧ Rps K CA F μ H (mrg ks ds ps).2 (mrg ks vs qs).2
  | [], [], ks, ds, vs, _, hl, r => ⟨rfl, hl, r⟩
  | (k, d) :: ps, (k', v) :: qs, ks, ds, vs, h, hl, r => by
    obtain ⟨h1, h2, h3⟩ := h
    have h1' : k = k' := h1
    subst h1'
    exact mrg_rps ps qs (newKs k ks) (newVs k d ks ds) (newVs k v ks vs) h3 (newKV_len k d hl) (newVs_rps h2 ks r)
  | [], _ :: _, _, _, _, h, _, _ => h.elim
  | _ :: _, [], _, _, _, h, _, _ => h.elim
def dictP : D → List D → Out R := fun d bx => match (d.sL bx).bind pairsD with
  | some ps => .ok (.new (.dk (mrg [] [] ps).1 (mrg [] [] ps).2)) bx
  | none => .stk
theorem pairs_at {K : PySem.W.Frag} {F : Addr → Prop} {μ : List Addr} {H : Hp} : ∀ {ds : List D} {vs : List V} {ps : List (Key × D)}, Rps K CA F μ H ds vs → pairsD ds = some ps →
    ∃ (as : List Addr) (kvs : List (Key × V)), vs = as.map V.ref ∧ Paired (fun p kv => SqT K H p [kV kv.1, kv.2]) as kvs ∧ PPair K CA F μ H ps kvs
  | [], [], ps, _, e => by
    cases e
    exact ⟨[], [], rfl, .nil, trivial⟩
  | d :: ds, v :: vs, ps, r, e => by
    unfold pairsD at e
    cases q : pairD d with
    | none => simp only [q] at e; cases e
    | some pr =>
      cases q2 : pairsD ds with
      | none => simp only [q, q2] at e; cases e
      | some ps' =>
        simp only [q, q2] at e
        cases e
        obtain ⟨as, kvs, h1, h2, h3⟩ := pairs_at r.2 q2
        obtain ⟨r1, _⟩ := r
        cases d with
        | tup xs =>
          match xs, q, r1 with
          | [kd, d], q, ⟨a, us, ea, ta, ru⟩ =>
            match us, ru, ta with
            | [u1, u2], ⟨ru1, ru2, _⟩, ta =>
              cases qk : keyD kd with
              | none => rw [pairD, qk] at q; cases q
              | some k =>
                rw [pairD, qk] at q
                cases q
                have eu := key_v ru1 qk
                subst eu ea h1
                exact ⟨a :: as, (k, u2) :: kvs, rfl, .cons ta.sq h2, rfl, ru2, h3⟩
            | [], ru, _ => exact ru.elim
            | [_], ru, _ => exact ru.2.elim
            | _ :: _ :: _ :: _, ru, _ => exact ru.2.2.elim
          | [], q, _ => cases q
          | [_], q, _ => cases q
          | _ :: _ :: _ :: _, q, _ => cases q
        | _ => cases q
  | [], _ :: _, _, r, _ => r.elim
  | _ :: _, [], _, r, _ => r.elim
theorem dc_dictP (hc : X.calm = true) : DCall X CA W (.type "dict") (un1 dictP) := dc1 (call_dictP hc) fun d v bx F μ σ H Q s r o => by
  unfold dictP at o
  cases q : d.sL bx with
  | none => simp only [q, Option.bind_none] at o; exact o.elim
  | some ds =>
    simp only [q, Option.bind_some] at o
    cases q2 : pairsD ds with
    | none => simp only [q2] at o; exact o.elim
    | some ps =>
      simp only [q2] at o
      obtain ⟨a, vs, h1, h2, h3⟩ := sL_at s r q
      obtain ⟨as, kvs, g1, g2, g3⟩ := pairs_at h3 q2
      subst g1
      obtain ⟨m1, m2, m3⟩ := mrg_rps (CA := CA) ps kvs [] [] [] g3 rfl (show Rps X.K CA F μ H [] [] from trivial)
      refine ⟨a, as, kvs, by rw [h1], h2, g2, fun p hp => ?_⟩
      have em := mrg_v kvs [] [] rfl
      have em2 : mergeK [] kvs = (mrg [] [] kvs).1.zip (mrg [] [] kvs).2 := em
      rw [em2, ← m1]
      have e2 := Ext.tmp (F := F) (μ := μ) (o := .dK ((mrg [] [] ps).1.zip (mrg [] [] kvs).2)) hp
      exact o (.ref p) F _ e2 (s.tmp hp) ⟨p, rfl, .of hp, s.notIn hp, s.notF hp, _, upd_same, m2, m3.ext s e2⟩
/-! ### dicts that are equal, whatever the order -/
def flatD : D → Option V
  | .non => some .non
  | .bl b => some (.bl b)
  | .int i => some (.int i)
  | .str x => some (.str x)
  | _ => none
/-- each key of the one stands in the other, with the same flat value -/
def sameIn : List Key → List D → List Key → List D → Bool
  | k :: ks, d :: ds, ks2, ds2 => (match flatD d, (getK k ks2 ds2).bind flatD with
    | some v, some w => decide (v = w)
    | _, _ => false) && sameIn ks ds ks2 ds2
  | [], [], _, _ => true
  | _, _, _, _ => false
def dkSame (neg : Bool) : D → D → List D → Out R := fun x y bx => match x.dkB bx, y.dkB bx with
  | some (ks, ds), some (ks2, ds2) => if ks.length = ks2.length ∧ sameIn ks ds ks2 ds2 = true then OK (.bl (!neg)) bx else .stk
  | _, _ => .stk
end
end DL

set_option Elab.async false
set_option linter.all false
set_option maxRecDepth 100000
set_option maxHeartbeats 4000000
/-! DL21: repr of truths and None, targets from a list, ranges downwards, dicts that are equal. -/
namespace DL
open PySem PySem.Spec L2
section
variable {X : Cx} {CA : Ly} {W : WX} {a b c e tg : Expr} {es : List Expr} {pos : Pos}
/-! ### repr -/
theorem call_reprB : CallR X (.builtin "repr") (fun xs H Q => ∃ k : Bool, xs = [.bl k] ∧ Q (.str (if k then "True" else "False")) H) := by
  intro pins s σ H xs us Q I r ⟨k, ex, q⟩
  subst ex
  obtain ⟨u, eu, rx⟩ := vals1 r
  subst eu
  have eu : u = Value.bool k := rx
  subst eu
  exact PySem.P.repr_of_bool ⟨.str (if k then "True" else "False"), H, I.tok _, ⟨_, rfl⟩, q⟩
theorem call_reprN : CallR X (.builtin "repr") (fun xs H Q => xs = [.non] ∧ Q (.str "None") H) := by
  intro pins s σ H xs us Q I r ⟨ex, q⟩
  subst ex
  obtain ⟨u, eu, rx⟩ := vals1 r
  subst eu
  have eu : u = Value.none := rx
  subst eu
  exact PySem.P.repr_of_none ⟨.str "None", H, I.tok _, ⟨_, rfl⟩, q⟩
def reprD : D → List D → Out R
  | .non, bx => OK (.str "None") bx
  | .bl k, bx => OK (.str (if k then "True" else "False")) bx
  | _, _ => .stk
theorem dc_repr : DCall X CA W (.builtin "repr") (un1 reprD) := dc1 (call_reprB.or call_reprN) fun d v bx F μ σ H Q s r o => by
  cases d with
  | bl k => exact .inl ⟨k, by rw [show v = V.bl k from r], okV o s rfl⟩
  | non => exact .inr ⟨by rw [show v = V.non from r], okV o s rfl⟩
  | _ => exact o.elim
/-! ### a, b, .. = a list -/
def gLstD (gs : List (D → Sl → Option Sl)) : D → Sl → Option Sl := fun d ρ => match d with
  | .lst ds => gTs gs ds ρ
  | _ => none
theorem sg_lst {is : List Nat} {k : Nat} {gs : List (D → Sl → Option Sl)} (hc : X.calm = true) (h : SGs X CA es is (gTs gs)) (hn : (assignEach es X.env).length = gs.length := by rfl) (hst : (assignEach es X.env).findIdx? (·.1) = none := by rfl) : SG X CA (.Tuple es k pos) is (gLstD gs) := by
  obtain ⟨t, h1, h2⟩ := h.ex
  refine ⟨_, pg_lst hc h1 hn hst, fun d v ρ bx F μ σ H Q s n r ⟨ρ', e, k⟩ => ?_⟩
  cases d with
  | lst ds =>
    obtain ⟨p, vs, q1, q2, q3⟩ := r
    subst q1
    exact ⟨p, vs, rfl, q2.sq, by rw [← q3.length]; exact gTs_len e, h2 ds vs ρ bx F μ σ H Q s n q3 ⟨ρ', e, k⟩⟩
  | _ => cases e
/-! ### range(i, j, -1) -/
def rngD (lo : Int) (n : Nat) : List D := (List.range n).map fun (i : Nat) => D.int (lo + (i : Int) * (-1))
theorem rngD_get {lo : Int} {n i : Nat} {d : D} (h : (rngD lo n)[i]? = some d) : i < n ∧ d = .int (lo + (i : Int) * (-1)) := by
  unfold rngD at h
  rw [List.getElem?_map] at h
  cases q : (List.range n)[i]? with
  | none => rw [q] at h; cases h
  | some j =>
    rw [q] at h
    obtain ⟨h1, h2⟩ := List.getElem?_eq_some_iff.mp q
    simp at h1 h2
    subst h2
    exact ⟨h1, (Option.some.inj h).symm⟩
theorem rngD_len {lo : Int} {n : Nat} : (rngD lo n).length = n := by simp [rngD]
theorem wk_rngD {K : PySem.W.Frag} {F : Addr → Prop} {μ : List Addr} {H : Hp} {lo : Int} {n : Nat} : Wk K CA (Itc lo (-1) n) F μ H (rngD lo n) := by
  intro i F2 μ2 H2 bx2 e2 s2
  refine ⟨fun d hd => ?_, fun hi => by rw [rngD_len] at hi; exact Nat.le_of_eq hi.symm⟩
  obtain ⟨h1, rfl⟩ := rngD_get hd
  refine ⟨h1, fun x H' y => ?_⟩
  obtain ⟨rfl, rfl⟩ := y
  exact ⟨F2, Ext.refl, s2, rfl⟩
def iRngDM (m1 m2 : ME) : MI := fun ρ bx => (m1 ρ bx).bind fun r b => (m2 ρ b).bind fun r2 b2 => match r.d, r2.d with
  | .int i, .int j => if -(2 ^ 62) ≤ i ∧ i < 2 ^ 62 ∧ -(2 ^ 62) ≤ j ∧ j < 2 ^ 62 then .ok (rngD i (i - j).toNat) b2 else .stk
  | _, _ => .stk
theorem si_rngD {m m2 : ME} {p p1 p2 : Pos} {k : Nat} (hg : Gl X "range") (hm : X.mg "range" = none) (h : SE X CA W a m) (h2 : SE X CA W b m2)
    (hs : starEach [a, b, .UnaryOp .USub (.Constant (.int 1) k p1) p2] X.env = (false, eval a X.env) :: starEach [b, .UnaryOp .USub (.Constant (.int 1) k p1) p2] X.env := by rfl)
    (hs2 : starEach [b, .UnaryOp .USub (.Constant (.int 1) k p1) p2] X.env = (false, eval b X.env) :: starEach [.UnaryOp .USub (.Constant (.int 1) k p1) p2] X.env := by rfl)
    (hpl : (backTo pos (starEach [b, .UnaryOp .USub (.Constant (.int 1) k p1) p2] X.env)).any (·.1) = false := by rfl) :
    SI X CA W tg (.Call (.Name "range" p) [a, b, .UnaryOp .USub (.Constant (.int 1) k p1) p2] [] pos) (iRngDM m m2) := by
  obtain ⟨te, t1, t2⟩ := h.dat
  obtain ⟨ue, u1, u2⟩ := h2.dat
  refine ⟨_, pi_range3 hg hm (pa_cons t1 (pa_cons u1 (pa_cons (pe_un un_neg pe_int) pa_nil) hs2) hs) hs hpl, fun ρ bx F μ σ H R s n o => t2 ρ bx F μ σ H _ s n ?_⟩
  unfold iRngDM at o
  cases q : m ρ bx with
  | stk => rw [q] at o; exact o
  | exn c ns ds b => rw [q] at o; exact o
  | ok r b =>
    rw [q] at o
    intro v F1 H1 e1 s1 rr
    refine u2 ρ b F1 μ σ H1 _ s1 (n.ext s e1) ?_
    simp only [Out.bind_ok] at o
    cases q2 : m2 ρ b with
    | stk => rw [q2] at o; exact o
    | exn c ns ds b => rw [q2] at o; exact fun cls dx F' H' e' s' x => o cls dx F' H' (e1.trans e') s' x
    | ok r2 b2 =>
      rw [q2] at o
      intro v2 F2 H2 e2 s2 rr2
      simp only [Out.bind_ok] at o
      cases rd : r.d with
      | int i => cases rd2 : r2.d with
        | int j =>
          rw [rd] at rr o
          rw [rd2] at rr2 o
          by_cases hj : -(2 ^ 62) ≤ i ∧ i < 2 ^ 62 ∧ -(2 ^ 62) ≤ j ∧ j < 2 ^ 62
          · simp only [if_pos hj] at o
            exact ⟨1, rfl, i, j, -1, (i - j).toNat, by rw [show v = .int i from rr, show v2 = .int j from rr2], RgC.neg hj.1 hj.2.1 hj.2.2.1 hj.2.2.2, o _ F2 H2 (e1.trans e2) s2 wk_rngD⟩
          · simp only [if_neg hj] at o
        | _ => rw [rd, rd2] at o; exact o.elim
      | _ => rw [rd] at o; exact o.elim
/-! ### dicts that are equal -/
theorem flat_v {K : PySem.W.Frag} {F : Addr → Prop} {μ : List Addr} {H : Hp} {d : D} {v w : V} (r : Rp K CA F μ H d v) (e : flatD d = some w) : v = w ∧ flatB w = true := by
  cases d with
  | non => cases e; exact ⟨r, rfl⟩
  | bl k => cases e; exact ⟨r, rfl⟩
  | int k => cases e; exact ⟨r, rfl⟩
  | str k => cases e; exact ⟨r, rfl⟩
  | _ => cases e
theorem sameIn_v {K : PySem.W.Frag} {F : Addr → Prop} {μ : List Addr} {H : Hp} {ks2 : List Key} {ds2 : List D} {vs2 : List V} (r2 : Rps K CA F μ H ds2 vs2) : ∀ {ks : List Key} {ds : List D} {vs : List V}, Rps K CA F μ H ds vs → sameIn ks ds ks2 ds2 = true →
    ∀ p ∈ ks.zip vs, valV (ks2.zip vs2) p.1 = some p.2 ∧ flatB p.2 = true
  | [], _, _, _, _, p, hp => by simp at hp
  | k :: ks, [], _, _, e, p, hp => by cases e
  | k :: ks, d :: ds, [], r, _, _, _ => r.elim
  | k :: ks, d :: ds, v :: vs, r, e, p, hp => by
    unfold sameIn at e
    rw [Bool.and_eq_true] at e
    obtain ⟨e1, e2⟩ := e
    rcases List.mem_cons.mp hp with rfl | hp
    · cases q : flatD d with
      | none => simp only [q] at e1; cases e1
      | some w =>
        cases q2 : getK k ks2 ds2 with
        | none => simp only [q, q2, Option.bind_none] at e1; cases e1
        | some d2 =>
          cases q3 : flatD d2 with
          | none => simp only [q, q2, q3, Option.bind_some] at e1; cases e1
          | some w2 =>
            simp only [q, q2, q3, Option.bind_some] at e1
            have ew := of_decide_eq_true e1
            obtain ⟨v2, g1, g2⟩ := getK_v r2 q2
            obtain ⟨z1, z2⟩ := flat_v r.1 q
            obtain ⟨z3, z4⟩ := flat_v g2 q3
            subst z1 z3 ew
            exact ⟨g1, z2⟩
    · exact sameIn_v r2 r.2 e2 p hp
theorem dkSame_ok {x y : D} {vx vy : V} {bx : List D} {F : Addr → Prop} {μ : List Addr} {σ : L2.St} {H : Hp} {Q : VK} {neg : Bool} (s : Sx X.K CA F μ H bx) (rx : Rp X.K CA F μ H x vx) (ry : Rp X.K CA F μ H y vy) (o : OkG X.K CA W F μ σ H (fun F' H' => RRv X.K CA F' μ H H') (dkSame neg x y bx) Q) :
    ∃ (a b : Addr) (ks ls : List (Key × V)), vx = .ref a ∧ vy = .ref b ∧ H a = some (.dK ks) ∧ H b = some (.dK ls) ∧ ks.length = ls.length ∧ (∀ p ∈ ks, valV ls p.1 = some p.2 ∧ flatB p.2 = true) ∧ Q (.bl (!neg)) H := by
  unfold dkSame at o
  cases q : x.dkB bx with
  | none => simp only [q] at o; exact o.elim
  | some t =>
    obtain ⟨ks, ds⟩ := t
    cases q2 : y.dkB bx with
    | none => simp only [q, q2] at o; exact o.elim
    | some t2 =>
      obtain ⟨ks2, ds2⟩ := t2
      simp only [q, q2] at o
      obtain ⟨⟨hl, hs⟩, o⟩ := okIf o
      obtain ⟨a, vs, h1, h2, h3, h4⟩ := dk_at s rx q
      obtain ⟨b, vs2, g1, g2, g3, g4⟩ := dk_at s ry q2
      exact ⟨a, b, _, _, h1, g1, h2, g2, by rw [List.length_zip, List.length_zip, ← h4.length, ← g4.length, ← h3, ← g3, hl], sameIn_v g4 h4 hs, okV o s rfl⟩
theorem dop_neDk (hu : X.A.units + 64 < cLine) : DOp X CA W (compareOp .NotEq) (dkSame true) := ⟨_, op_ne_dictA (by omega), fun x y vx vy bx F μ σ H Q s rx ry o => dkSame_ok s rx ry o⟩
theorem dop_eqDk (hu : X.A.units + 64 < cLine) : DOp X CA W (compareOp .Eq) (dkSame false) := ⟨_, op_eq_dictA (by omega), fun x y vx vy bx F μ σ H Q s rx ry o => dkSame_ok s rx ry o⟩
end
end DL

set_option Elab.async false
set_option linter.all false
set_option maxRecDepth 100000
set_option maxHeartbeats 4000000
/-! DL22: sorted(xs, key=lambda x: (abs(x), x < 0)). -/
namespace DQ
open PySem PySem.W PySem.Calls PyProof.Rows
def magKey (i : Int) : PyData := .tuple [.int (if i < 0 then -i else i), .bool (decide (i < 0))]
def magE (x : Str) (p1 p2 p3 p4 p5 p6 p7 : Pos) (j1 kk : Nat) : Expr :=
  .Tuple [.Call (.Name "abs" p1) [.Name x p2] [] p3, .Compare (.Name x p4) [.Lt] [.Constant (.int 0) j1 p5] p6] kk p7
section
variable {prog : Program} {w : World} {A : Around} {s : Shared} {env : Env} {x : Str} {m mg mb : Str → Option Value} {i : Int} {t0 : Tok} {E : Value → Shared → Prop}
theorem mag_key {p1 p2 p3 p4 p5 p6 p7 : Pos} {j1 kk : Nat} (hk : env.scope.kind = .function) (hl : env.kindOf x = some .local) (ha : env.kindOf "abs" = some .globalImplicit)
    (hns : s.heap.Ns env.locals m) (hm : m x = some (.int i t0)) (hd : (x == ("__debug__" : Str)) = false)
    (hG : s.heap.Ns env.globals mg) (hmiss : mg "abs" = none) (hB : s.heap.Ns env.builtins mb) (hv : mb "abs" = some (.builtin "abs")) :
    wpAny (model prog w) A (eval (magE x p1 p2 p3 p4 p5 p6 p7 j1 kk) env) (KeyPure (magKey i) s) (fun _ _ => False) s := by
  refine wpAny_Tuple (wpAny_items_cons (wpAny_Call_Name_kw (Calls.Name_function_global hk ha (Calls.loadGlobal_builtin hG hmiss hB hv ?_) (by decide))))
  refine PyProof.Rows.callWith_builtin1 ?_ (by rfl) (by rfl)
  refine wpAny_items_cons (wpAny_Name (wpAny_loadName_local hk hl hns hm (wpAny_items_nil ?_)) hd)
  refine call_abs_int fun u tk => ?_
  refine wpAny_items_cons (wpAny_Compare1 (wpAny_Name (wpAny_loadName_local (s := { s with toks := tk }) hk hl hns hm (wpAny_Constant_int (lt_int (wpAny_items_nil ?_)))) hd))
  refine ⟨by simp [sizeLine_eq], s.heap.push _, tk + 1, rfl, fun b o q => Heap.get?_push_of_some _ q, ?_⟩
  refine .tuple (xs := [.int (if i < 0 then -i else i), .bool (decide (i < 0))]) (Heap.get?_push_size _ rfl) rfl rfl ?_
  exact .cons (.int _ _) (.cons (.bool _) .nil)
end
end DQ
namespace DL
open PySem PySem.Spec L2
def magLe (i j : Int) : Bool := decide (i.natAbs < j.natAbs) || (decide (i.natAbs = j.natAbs) && (decide (0 ≤ i) || decide (j < 0)))
theorem magLe_data {β : Type} (k : β → Int) : PySem.W.dataLe false (fun b => DQ.magKey (k b)) = fun p q => magLe (k p) (k q) := by
  funext p q
  show (!PySem.W.dataLt (DQ.magKey (k q)) (DQ.magKey (k p))) = _
  have ft : PySem.W.dataLt (.bool false) (.bool true) = true := by first | rfl | decide
  have tf : PySem.W.dataLt (.bool true) (.bool false) = false := by first | rfl | decide
  have ff : PySem.W.dataLt (.bool false) (.bool false) = false := by first | rfl | decide
  have tt : PySem.W.dataLt (.bool true) (.bool true) = false := by first | rfl | decide
  have gen : ∀ (a b : Bool) (i j : Int), PySem.W.dataLt (.tuple [.int i, .bool a]) (.tuple [.int j, .bool b]) = if i = j then PySem.W.dataLt (.bool a) (.bool b) else decide (i < j) := fun a b i j => by
    rw [PySem.W.dataLt_pair (by simp [PySem.W.alike]) (by simp [PySem.W.alike]), PySem.W.dataLt_int]
    by_cases h : i = j
    · subst h
      cases a <;> cases b <;> simp [PyData.eqv, ft, tf, ff, tt]
    · simp [PyData.eqv, h]
  unfold DQ.magKey
  rw [gen]
  generalize k p = i
  generalize k q = j
  have e1 : ∀ n : Int, (if n < 0 then -n else n) = (n.natAbs : Int) := fun n => by split <;> omega
  rw [e1, e1]
  unfold magLe
  by_cases h : (j.natAbs : Int) = i.natAbs
  · rw [if_pos h]
    have h2 : i.natAbs = j.natAbs := by omega
    by_cases hj : j < 0 <;> by_cases hi : i < 0 <;> simp [h2, hj, hi, ft, tf, ff, tt] <;> omega
  · rw [if_neg h]
    have h2 : ¬ i.natAbs = j.natAbs := by omega
    by_cases hlt : (j.natAbs : Int) < i.natAbs
    · have : ¬ i.natAbs < j.natAbs := by omega
      simp [h2, hlt, this]
    · have : i.natAbs < j.natAbs := by omega
      simp [h2, hlt, this]
section
variable {X : Cx} {e : Expr} {te : TE} {p pos kp lp : Pos} {P c : Addr} {params : Arguments} {scope : Scope} {x : Str} {k : Nat} {T : List (Addr × Str)}
variable {p1 p2 p3 p4 p5 p6 p7 : Pos} {j1 kk : Nat}
def magPost (X : Cx) (T : List (Addr × Str)) (Q : VK) (v : V) (H1 : Hp) : Prop := LamX.Tabs T H1 ∧ ∀ H2, LamX.ExtN H1 H2 → LamX.Tabs T H2 → ∃ (a : Addr) (ks : List (V × Int)), v = .ref a ∧
  (SqL X.K H2 a (ks.map Prod.fst) ∨ SqT X.K H2 a (ks.map Prod.fst)) ∧ (∀ q ∈ ks, q.1 = .int q.2) ∧
  ∀ l, H2 l = none → Q (.ref l) (upd H2 l (.lst ((ks.mergeSort fun p q => magLe p.2 q.2).map Prod.fst)))
def tSortMag (X : Cx) (T : List (Addr × Str)) (te : TE) : TE := fun σ H Q => te σ H (magPost X T Q)
def magPost1 (X : Cx) (T : List (Addr × Str)) (Q : VK) : List V → Hp → Prop
  | [v], H1 => magPost X T Q v H1
  | _, _ => False
theorem valsM_each {ks : List (V × Int)} {us : List Value} (r : Vals (ks.map Prod.fst) us) : PySem.W.EachIs (fun u (q : V × Int) => RelV q.1 u ∧ q ∈ ks) us ks := by
  have gen : ∀ (zs : List (V × Int)) (us : List Value), (∀ q ∈ zs, q ∈ ks) → Vals (zs.map Prod.fst) us → PySem.W.EachIs (fun u (q : V × Int) => RelV q.1 u ∧ q ∈ ks) us zs := by
    intro zs
    induction zs with
    | nil => intro us _ r; cases r; exact .nil
    | cons z zs ih =>
      intro us hm r
      cases r with
      | cons r1 r2 => exact .cons ⟨r1, hm z (List.mem_cons_self ..)⟩ (ih _ (fun q hq => hm q (List.mem_cons_of_mem _ hq)) r2)
  exact gen ks us (fun _ h => h) r
theorem eachM_vals {P : V × Int → Prop} : ∀ {zs : List (V × Int)} {us : List Value}, PySem.W.EachIs (fun u (q : V × Int) => RelV q.1 u ∧ P q) us zs → Vals (zs.map Prod.fst) us
  | [], _, .nil => .nil
  | _ :: _, _, .cons h t => .cons h.1 (eachM_vals t)
theorem pe_sortMag (he : PE X e te) (hr : Room k X.A) (hg : Gl X "sorted") (hm : X.mg "sorted" = none) (hma : X.mg "abs" = none) (TB : LamX.TabB X.base X.mg c P) (hcode : X.env.code = .ref c) (hT : (P, X.env.qual ++ "<lambda>") ∈ T)
    (hu : ∀ p ∈ T, p.1 = P → p.2 = X.env.qual ++ "<lambda>") (hdef : defaultsOf params X.env = ([], []))
    (hs : scope = { kind := .function, names := [(x, .local), ("abs", .globalImplicit)], isGenerator := false, isCoroutine := false, more := [] }) (hd : (x == ("__debug__" : Str)) = false) (hxa : (x == ("abs" : Str)) = false)
    (hbind : ∀ pm c' ctv v, bindArgs (PySem.W.kla_fn "<lambda>" (X.env.qual ++ "<lambda>") params (DQ.magE x p1 p2 p3 p4 p5 p6 p7 j1 kk) scope (cloFrom X.env.cells scope.names []) pm (.ref c') ctv) ⟨[v], []⟩ = pure [(x, v)])
    (h1 : starEach [e] X.env = (false, eval e X.env) :: starEach [] X.env := by rfl) (h2 : backTo pos (starEach [e] X.env) = (false, eval e X.env) :: backTo pos (starEach [] X.env) := by rfl)
    (h3 : (backTo pos (starEach [e] X.env)).any (·.1) = false := by rfl) :
    PE X (.Call (.Name "sorted" p) [e] (kwLam params (DQ.magE x p1 p2 p3 p4 p5 p6 p7 j1 kk) scope lp kp) pos) (tSortMag X T te) := by
  refine ⟨fun pins s σ H Q I h => ?_⟩
  have hfree : ∀ y ∈ scope.names, y.2 = .free → ∃ c, X.env.cells.lookup y.1 = some c := fun y hy z => by
    subst hs
    have hy2 : y = (x, NameKind.local) ∨ y = (("abs" : Str), NameKind.globalImplicit) := by simpa using hy
    rcases hy2 with rfl | rfl <;> cases z
  have ha : PA X [e] (tCons te tNil) := pa_cons he pa_nil h1
  refine wpAny_Call_Name_kw (ld_blt I hg hm (by rfl) ?_ (by decide) (by decide))
  refine PyProof.Rows.callWith_kw (thn (ha.run pos pins s σ H (magPost1 X T Q) I h) fun us s1 ⟨vs, H1, I1, r1, q1⟩ => ?_) h2 h3
  obtain ⟨v, rfl⟩ : ∃ v, vs = [v] := by
    match vs, q1 with
    | [v], _ => exact ⟨v, rfl⟩
    | [], q | _ :: _ :: _, q => exact q.elim
  obtain ⟨tb1, hq⟩ := q1
  obtain ⟨u, rfl, ru⟩ := vals1 r1
  show wpAny _ _ (evalAll [(do let v ← eval (.Lambda params (DQ.magE x p1 p2 p3 p4 p5 p6 p7 j1 kk) scope lp) X.env; standAt pos; pure v)]) _ _ s1
  refine wpAny_evalAll_cons (wpAny_bind (LamX.lam_make2 I1 TB hcode hT hu tb1 hdef hfree fun f c' pm ctv H2 s2 I2 eN tb2 hof n1 n2 hc' => wpAny_bind (wpAny_standAt (wpAny_pure (wpAny_evalAll_nil ?_)))))
  obtain ⟨a, ks, rfl, hsq, hit, q⟩ := hq H2 eN tb2
  obtain rfl : u = Value.ref a := ru
  obtain ⟨⟨oc, ovs, ot, hoc, hdc, hvc⟩, _, _⟩ := I2.hok c' _ hc'
  obtain ⟨its, ri, hseq, hz⟩ : ∃ its : List Value, Vals (ks.map Prod.fst) its ∧ DQ.SeqAt s2.heap a its ∧ (ks.map Prod.fst).length ≤ sizeLine := by
    rcases hsq with hsq | hsq
    · obtain ⟨its, r', pl, hz⟩ := I2.list hsq
      obtain ⟨o, ho, hc, n, hd⟩ := pl.isList
      exact ⟨its, r', ⟨o, n, ho, .inl hc, hd⟩, hz⟩
    · obtain ⟨its, r', pl, hz⟩ := I2.tuple hsq
      obtain ⟨o, ho, hc, n, hd⟩ := pl
      exact ⟨its, r', ⟨o, n, ho, .inr hc, hd⟩, hz⟩
  show wpAny _ _ (call (.builtin "sorted") [.ref a] [(Str.ofString "key", .ref f)]) _ _ s2
  refine DQ.sorted_seq_key (fun q : V × Int => DQ.magKey q.2) hseq (valsM_each ri) (PySem.W.AllAlike.of fun b b' => ?_) (PySem.W.Sortable.tuples fun _ => ⟨_, _, rfl⟩) (by simpa using hz) (fun q _ => ?_) (fun v q hR g tk kg => ?_) fun out c0 g tk kg hD eo => ?_
  · simp [PySem.W.alike, PySem.W.alikeAll, DQ.magKey]
  · have h1 : (DQ.magKey q.2).depth = 1 := by simp [DQ.magKey, PyData.depth, PyData.depthAll]
    have := hr.un
    omega
  · obtain ⟨rv, hm⟩ := hR
    have e1 := hit q hm
    rw [e1] at rv
    obtain ⟨t0, rfl⟩ : ∃ t, v = Value.int q.2 t := rv
    subst hs
    refine DQ.lam_turn (s := { s2 with heap := g, toks := tk }) (x := x) (kg f _ hof) ⟨c', oc, ovs, ot, rfl, kg _ _ hoc, hdc, hvc⟩ (I2.nolimit.keeps kg) (by have := hr.dp; show X.A.depth < _; omega) (hbind pm c' ctv _) ?_ rfl rfl rfl (fun y hy => ?_) fun L g' tk' kg' hns => ?_
    · simp
    · have hy2 : y = (x, NameKind.local) ∨ y = (("abs" : Str), NameKind.globalImplicit) := by simpa using hy
      rcases hy2 with rfl | rfl <;> exact fun z => by cases z
    · obtain ⟨mb, hb1, hb2⟩ := I2.mod.blt
      refine DQ.mag_key (s := { s2 with heap := g', toks := tk' }) (m := fun y => [(x, Value.int q.2 t0)].reverse.lookup y) (mg := X.mg) (mb := mb) (t0 := t0) rfl ?_ ?_ hns (by simp) hd ?_ hma ?_ ?_
      · show List.lookup x [(x, NameKind.local), (("abs" : Str), .globalImplicit)] = some .local
        simp
      · show List.lookup ("abs" : Str) [(x, NameKind.local), ("abs", .globalImplicit)] = some .globalImplicit
        have : (("abs" : Str) == x) = false := by
          rw [BEq.comm]; exact hxa
        simp [List.lookup, this]
      · exact ((I2.mod.glob.keeps I2.bk).keeps kg).keeps kg'
      · exact ((hb1.keeps I2.bk).keeps kg).keeps kg'
      · rw [hb2 _ (by decide)]; rfl
  · rw [magLe_data (fun q : V × Int => q.2)] at eo
    have rv := eachM_vals eo
    refine ⟨.ref (s2.heap.objs.size + 1), _, I2.laid (o := .lst ((ks.mergeSort fun p q => magLe p.2 q.2).map Prod.fst)) (t' := tk) kg (Nat.le_succ _) ⟨?_, out, c0, rv, hD⟩, rfl, q _ (I2.hok.fresh (Nat.le_succ _))⟩
    simpa using hz
end
/-- ints -/
def intO : D → Option Int
  | .int i => some i
  | _ => none
def dMag (d : D) : Int := (intO d).getD 0
def sortMag (ds : List D) : List D := ds.mergeSort fun p q => magLe (dMag p) (dMag q)
def mSortMag (m : ME) : ME := fun ρ bx => (m ρ bx).bind fun r b => match r.d.seq b with
  | some ds => if (ds.all fun d => (intO d).isSome) = true then .ok (.new (.lst (sortMag ds))) b else .stk
  | none => .stk
section
variable {X : Cx} {CA : Ly} {W : WX} {e : Expr} {p pos kp lp : Pos} {P c : Addr} {params : Arguments} {scope : Scope} {x : Str} {k : Nat}
variable {p1 p2 p3 p4 p5 p6 p7 : Pos} {j1 kk : Nat}
theorem se_sortMag {m : ME} (he : SE X CA W e m) (hr : Room k X.A) (hg : Gl X "sorted") (hm : X.mg "sorted" = none) (hma : X.mg "abs" = none) (TB : LamX.TabB X.base X.mg c P) (hcode : X.env.code = .ref c) (hT : (P, X.env.qual ++ "<lambda>") ∈ CA.tb)
    (hu : ∀ p ∈ CA.tb, p.1 = P → p.2 = X.env.qual ++ "<lambda>") (hdef : defaultsOf params X.env = ([], []))
    (hs : scope = { kind := .function, names := [(x, .local), ("abs", .globalImplicit)], isGenerator := false, isCoroutine := false, more := [] }) (hd : (x == ("__debug__" : Str)) = false) (hxa : (x == ("abs" : Str)) = false)
    (hbind : ∀ pm c' ctv v, bindArgs (PySem.W.kla_fn "<lambda>" (X.env.qual ++ "<lambda>") params (DQ.magE x p1 p2 p3 p4 p5 p6 p7 j1 kk) scope (cloFrom X.env.cells scope.names []) pm (.ref c') ctv) ⟨[v], []⟩ = pure [(x, v)])
    (h1 : starEach [e] X.env = (false, eval e X.env) :: starEach [] X.env := by rfl) (h2 : backTo pos (starEach [e] X.env) = (false, eval e X.env) :: backTo pos (starEach [] X.env) := by rfl)
    (h3 : (backTo pos (starEach [e] X.env)).any (·.1) = false := by rfl) :
    SE X CA W (.Call (.Name "sorted" p) [e] (kwLam params (DQ.magE x p1 p2 p3 p4 p5 p6 p7 j1 kk) scope lp kp) pos) (mSortMag m) := by
  obtain ⟨te, t1, t2⟩ := he.dat
  refine ⟨tSortMag X CA.tb te, pe_sortMag t1 hr hg hm hma TB hcode hT hu hdef hs hd hxa hbind h1 h2 h3, fun ρ bx F μ σ H Q s n o => t2 ρ bx F μ σ H _ s n ?_⟩
  unfold mSortMag at o
  cases q : m ρ bx with
  | stk => rw [q] at o; exact o.elim
  | exn c ns ds b => rw [q] at o; exact o
  | ok r b =>
    rw [q] at o
    intro v F1 H1 e1 s1 rv
    simp only [Out.bind_ok] at o
    cases q2 : r.d.seq b with
    | none => rw [q2] at o; exact o.elim
    | some ds =>
      simp only [q2] at o
      by_cases ha : (ds.all fun d => (intO d).isSome) = true
      · rw [if_pos ha] at o
        refine ⟨s1.tb, fun H2 eN tb2 => ?_⟩
        have e2 : Ext F1 μ H1 F1 H2 := Ext.ofN eN
        have s2 := s1.extN eN tb2
        obtain ⟨a, vs, ev, hsq, rs⟩ := seq_at s2 (rv.ext s1 e2) q2
        have hl := rs.length
        have o2 := OkG.shiftR (e1.trans e2) o
        have rp := rps_pairs rs
        have mf : (ds.zip vs).map Prod.fst = ds := List.map_fst_zip (by omega)
        have ms : (ds.zip vs).map Prod.snd = vs := List.map_snd_zip (by omega)
        refine ⟨a, (ds.zip vs).map fun z => (z.2, dMag z.1), ev, ?_, fun y hy => ?_, ?_⟩
        · have : (List.map (fun z : D × V => (z.2, dMag z.1)) (ds.zip vs)).map Prod.fst = vs := by
            rw [List.map_map]; exact ms
          rw [this]; exact hsq
        · obtain ⟨z, hz, rfl⟩ := List.mem_map.mp hy
          have hd1 : z.1 ∈ ds := (List.of_mem_zip hz).1
          obtain ⟨o3, h3⟩ := Option.isSome_iff_exists.mp (List.all_eq_true.mp ha _ hd1)
          have rz := rp z hz
          obtain ⟨z1, z2⟩ := z
          cases z1 with
          | int i => exact rz
          | _ => cases h3
        · let zs := (ds.zip vs).mergeSort fun y z => magLe (dMag y.1) (dMag z.1)
          have a1 : zs.map Prod.fst = sortMag ds := by
            show ((ds.zip vs).mergeSort _).map Prod.fst = _
            rw [List.map_mergeSort (s := fun p q => magLe (dMag p) (dMag q)) (fun _ _ _ _ => rfl), mf]; rfl
          have a2 : ((List.map (fun z : D × V => (z.2, dMag z.1)) (ds.zip vs)).mergeSort fun p q => magLe p.2 q.2).map Prod.fst = zs.map Prod.snd := by
            rw [← List.map_mergeSort (f := fun z : D × V => (z.2, dMag z.1)) (r := fun y z : D × V => magLe (dMag y.1) (dMag z.1)) (s := fun p q : V × Int => magLe p.2 q.2) (fun _ _ _ _ => rfl), List.map_map]
            rfl
          rw [a2]
          rw [← a1] at o2
          exact okL o2 s2 (pairs_rps fun z hz => rp z ((List.mergeSort_perm _ _).mem_iff.mp hz))
      · rw [if_neg ha] at o; exact o.elim
end
end DL

set_option Elab.async false
set_option linter.all false
set_option maxRecDepth 100000
set_option maxHeartbeats 4000000
/-! DL23: repr of any data, xs * k, enumerate over a box. -/
namespace DL
open PySem PySem.Spec L2
section
variable {X : Cx} {CA : Ly} {W : WX} {a b c e tg iter : Expr} {es : List Expr} {pos : Pos} {sts : List Stmt}
/-! ### repr -/
theorem call_reprA (hg : X.A.guards = some []) (hu : X.A.units + 64 < cLine) : CallR X (.builtin "repr") (fun xs H Q => ∃ v p, xs = [v] ∧ Dp X.K H v p ∧ p.showable = true ∧ p.hasDict = false ∧ p.depth < 63 ∧ p.shown.length ≤ sizeLine ∧ Q (.str p.shown) H) := by
  intro pins s σ H xs us Q I r ⟨v, p, ex, dp, hs, hd, hp, hz, q⟩
  subst ex
  obtain ⟨u, eu, rx⟩ := vals1 r
  subst eu
  have far : ∀ {l : Addr} {as : List Addr}, Reads s.heap (.ref l) p as → wpAny (model X.prog X.w) X.A (call (.builtin "repr") [.ref l]) (EP X pins σ Q) X.xe s := fun {l as} rd =>
    repr_of_reads' rd hs (fun z => by rw [hd] at z; cases z) hg (by omega) (fun _ _ z => z) (fun h' u tk hk => ⟨.str p.shown, H, I.kept hk, ⟨_, rfl⟩, q⟩) hz
  obtain ⟨as, rd⟩ := Dp.reads I p v u dp rx
  cases dp with
  | non =>
    have eu : u = Value.none := rx
    subst eu
    exact PySem.P.repr_of_none ⟨.str "None", H, I.tok _, ⟨_, rfl⟩, q⟩
  | bl k =>
    have eu : u = Value.bool k := rx
    subst eu
    exact PySem.P.repr_of_bool ⟨.str (if k then "True" else "False"), H, I.tok _, ⟨_, rfl⟩, by have q' := q; unfold PyData.shown at q'; exact q'⟩
  | int i =>
    obtain ⟨t, rfl⟩ := rx
    exact PySem.P.repr_of_int (by have h2 := hs; unfold PyData.showable at h2; exact of_decide_eq_true h2) ⟨.str (toString i), H, I.tok _, ⟨_, rfl⟩, by have q' := q; unfold PyData.shown at q'; exact q'⟩
  | str x =>
    obtain ⟨t, rfl⟩ := rx
    exact PySem.P.repr_of_str ⟨.str (reprText x), H, I.tok _, ⟨_, rfl⟩, by have q' := q; unfold PyData.shown at q'; exact q'⟩ (by have h2 := hz; unfold PyData.shown at h2; exact h2)
  | lst hs2 ha => cases rx; exact far rd
  | tup hs2 ha => cases rx; exact far rd
def reprA : D → List D → Out R := fun d bx => match d.toPB bx with
  | some p => if p.showable = true ∧ p.hasDict = false ∧ p.depth < 63 ∧ p.shown.length ≤ sizeLine then OK (.str p.shown) bx else .stk
  | none => .stk
theorem dc_reprA (hg : X.A.guards = some []) (hu : X.A.units + 64 < cLine) : DCall X CA W (.builtin "repr") (un1 reprA) := dc1 (call_reprA hg hu) fun d v bx F μ σ H Q s r o => by
  unfold reprA at o
  cases hx : d.toPB bx with
  | none => simp only [hx] at o; exact o.elim
  | some p =>
    simp only [hx] at o
    obtain ⟨hl, o⟩ := okIf o
    exact ⟨v, p, rfl, toPB_ok s r hx, hl.1, hl.2.1, hl.2.2.1, hl.2.2.2, okV o s rfl⟩
/-! ### texts compared -/
theorem op_eqS : OpR X (compareOp .Eq) (fun x y H Q => ∃ a b : Str, x = .str a ∧ y = .str b ∧ Q (.bl (a.cps.toList == b.cps.toList)) H) := by
  intro pins s σ H x y v u Q I rx ry ⟨a, b, ex, ey, q⟩
  subst ex ey
  obtain ⟨t, rfl⟩ := rx
  obtain ⟨t', rfl⟩ := ry
  exact PySem.P.eq_str ⟨.bl _, H, I, rfl, q⟩
theorem op_neS : OpR X (compareOp .NotEq) (fun x y H Q => ∃ a b : Str, x = .str a ∧ y = .str b ∧ Q (.bl (a.cps.toList != b.cps.toList)) H) := by
  intro pins s σ H x y v u Q I rx ry ⟨a, b, ex, ey, q⟩
  subst ex ey
  obtain ⟨t, rfl⟩ := rx
  obtain ⟨t', rfl⟩ := ry
  exact PySem.P.ne_str ⟨.bl _, H, I, rfl, q⟩
def eqS : D → D → List D → Out R
  | .str a, .str b, bx => OK (.bl (a.cps.toList == b.cps.toList)) bx
  | _, _, _ => .stk
def neS : D → D → List D → Out R
  | .str a, .str b, bx => OK (.bl (a.cps.toList != b.cps.toList)) bx
  | _, _, _ => .stk
theorem dop_eqS : DOp X CA W (compareOp .Eq) eqS := ⟨_, op_eqS, fun x y vx vy bx F μ σ H Q s rx ry o => by
  cases x <;> cases y <;> first | exact o.elim | skip
  exact ⟨_, _, rx, ry, okV o s rfl⟩⟩
theorem dop_neS : DOp X CA W (compareOp .NotEq) neS := ⟨_, op_neS, fun x y vx vy bx F μ σ H Q s rx ry o => by
  cases x <;> cases y <;> first | exact o.elim | skip
  exact ⟨_, _, rx, ry, okV o s rfl⟩⟩
/-! ### xs * k -/
theorem Rps.rep {K : PySem.W.Frag} {F : Addr → Prop} {μ : List Addr} {H : Hp} {ds : List D} {vs : List V} (r : Rps K CA F μ H ds vs) : ∀ n : Nat, Rps K CA F μ H (List.replicate n ds).flatten (List.replicate n vs).flatten
  | 0 => trivial
  | n + 1 => by
    rw [List.replicate_succ, List.replicate_succ, List.flatten_cons, List.flatten_cons]
    exact r.append (Rps.rep r n)
theorem dop_mulL : DOp X CA W (binaryOp .Mult) mulL := by
  refine ⟨_, op_rep, fun x y vx vy bx F μ σ H Q s rx ry o => ?_⟩
  unfold mulL at o
  cases hx : x.hL bx with
  | none => simp only [hx] at o; exact o.elim
  | some xs =>
    cases y with
    | int k =>
      simp only [hx] at o
      obtain ⟨hl, o⟩ := okIf o
      obtain ⟨p, vs, q1, q2, q3⟩ := hL_at s rx hx
      exact ⟨p, k, vs, q1, ry, q2, hl.1, hl.2.1, by rw [← q3.length]; exact hl.2.2, okL o s (q3.rep _)⟩
    | _ => simp only [hx] at o; exact o.elim
/-! ### for i, x in enumerate(a box) -/
def loopE (g : D → Sl → Option Sl) (m : MS) (n : Nat) : Nat → Nat → Sl → List D → OutS
  | 0, _, _, _ => .stk
  | k + 1, i, ρ, b => match b[n]? with
    | some (.lst xs) => (match xs[i]? with
      | none => .nx ρ b
      | some d => (match g (.tup [.int (i : Nat), d]) ρ with
        | none => .stk
        | some ρ' => (match m ρ' b with
          | .nx ρ2 b2 => loopE g m n k (i + 1) ρ2 b2
          | .ct ρ2 b2 => loopE g m n k (i + 1) ρ2 b2
          | .bk ρ2 b2 => .nx ρ2 b2
          | o => o)))
    | _ => .stk
def mForE (k : Nat) (mi : ME) (g : D → Sl → Option Sl) (m : MS) : MS := fun ρ bx => liftE (mi ρ bx) ρ fun r b => match r.d with
  | .box n => loopE g m n k 0 ρ b
  | _ => .stk
theorem loopE_ok {g : D → Sl → Option Sl} {m : MS} {tgr : TG} {tb : TS} {D : Ends} {n k : Nat} {a : Addr} {F1 : Addr → Prop} {μ1 : List Addr} {H1 : Hp} {b : List DL.D}
    {is : List Nat} (hg : ∀ d v ρ bx F μ σ H Q, Sx X.K CA F μ H bx → En X.K CA F μ H ρ σ → Rp X.K CA F μ H d v → (∃ ρ', g d ρ = some ρ' ∧ ∀ σ', En X.K CA F μ H ρ' σ' → Agr is σ σ' → Q σ' H) → tgr v σ H Q)
    (hb : ∀ ρ bx F μ σ H D, Sx X.K CA F μ H bx → En X.K CA F μ H ρ σ → OkS X.K CA W F μ H D (m ρ bx) → tb D σ H)
    (s1 : Sx X.K CA F1 μ1 H1 b) (ha : μ1[n]? = some a) {ρ : Sl} {σ : L2.St} (n1 : En X.K CA F1 μ1 H1 ρ σ) (o : OkS X.K CA W F1 μ1 H1 D (loopE g m n k 0 ρ b)) :
    ∃ Wi : Nat → Nat → L2.St → Hp → Prop, (∃ m, Wi 0 m σ H1) ∧ ∀ i m σ H, Wi i m σ H →
      ((Ite X.K a).stop i H ∧ D.nx σ H) ∨ ((Ite X.K a).go i H ∧ ∃ N : L2.St → Hp → Prop, (∀ σ' H', N σ' H' → ∃ m', m' < m ∧ Wi (i + 1) m' σ' H') ∧ ∀ x H', (Ite X.K a).yld i H x H' → tgr x σ H' fun σ2 H2 => tb { D with nx := N, ct := N, bk := D.nx } σ2 H2) := by
  let P : Nat → Nat → L2.St → Hp → Prop := fun i k' σ' H' => ∃ ρ' bx' F' μ', ExtM F1 μ1 H1 F' μ' H' ∧ Sx X.K CA F' μ' H' bx' ∧ En X.K CA F' μ' H' ρ' σ' ∧ OkS X.K CA W F' μ' H' D (loopE g m n k' i ρ' bx')
  refine ⟨fun i k' σ' H' => P i k' σ' H', ⟨k, ρ, b, F1, μ1, ExtM.refl, s1, n1, o⟩, ?_⟩
  rintro i k' σ2 H2 ⟨ρ2, bx2, F2, μ2, e2, s2, n2, o2⟩
  cases k' with
  | zero => exact o2.elim
  | succ k' =>
    unfold loopE at o2
    have ha2 := e2.get n a ha
    cases q : bx2[n]? with
    | none => rw [q] at o2; exact o2.elim
    | some d0 =>
      rw [q] at o2
      cases d0 with
      | lst xs =>
        obtain ⟨vs, hv, rv⟩ := s2.at_ n _ a q ha2
        have sq : SqL X.K H2 a vs := .inl (.inl hv)
        cases q2 : xs[i]? with
        | none =>
          simp only [q2] at o2
          have hi : vs.length ≤ i := by rw [← rv.length]; exact List.getElem?_eq_none_iff.mp q2
          exact .inl ⟨⟨vs, sq, hi⟩, o2 σ2 F2 μ2 H2 ExtM.refl s2 n2⟩
        | some d =>
          simp only [q2] at o2
          obtain ⟨v, v1, v2⟩ := rv.get q2
          refine .inr ⟨⟨vs, v, sq, v1⟩, P (i + 1) k', fun σ' H' p => ⟨k', Nat.lt_succ_self _, p⟩, fun x H3 y => ?_⟩
          obtain ⟨T, x', rfl, hT, rfl, y2⟩ := y
          have := y2 vs sq
          rw [v1] at this; cases this
          have e3 := Ext.new (F := F2) (μ := μ2) (o := .tup [.int (i : Nat), v]) s2 hT
          have s3 := s2.new (o := .tup [.int (i : Nat), v]) hT
          have n3 := n2.ext s2 e3
          have o3 := OkS.shift e3.m s3 o2
          have r3 : Rp X.K CA (fun b => F2 b ∨ b = T) μ2 (upd H2 T (.tup [.int (i : Nat), v])) (.tup [.int (i : Nat), d]) (.ref T) :=
            ⟨T, [.int (i : Nat), v], rfl, .inl ⟨.inr rfl, upd_same⟩, rfl, v2.ext s2 e3, trivial⟩
          cases q3 : g (.tup [.int (i : Nat), d]) ρ2 with
          | none => simp only [q3] at o3; exact o3.elim
          | some ρ3 =>
            simp only [q3] at o3
            refine hg _ _ ρ2 bx2 _ μ2 σ2 _ _ s3 n3 r3 ⟨ρ3, q3, fun σ4 n4 _ => hb ρ3 bx2 _ μ2 σ4 _ _ s3 n4 ?_⟩
            have fin : ∀ {ρ' : Sl} {b' : List DL.D}, OkS X.K CA W _ μ2 _ D (loopE g m n k' (i + 1) ρ' b') → ∀ σ' F' μ' H', ExtM _ μ2 _ F' μ' H' → Sx X.K CA F' μ' H' b' → En X.K CA F' μ' H' ρ' σ' → P (i + 1) k' σ' H' :=
              fun {ρ' b'} o4 σ' F' μ' H' e' s' n' => ⟨ρ', b', F', μ', e2.trans s2 (e3.m.trans s3 e'), s', n', OkS.shift e' s' o4⟩
            cases q4 : m ρ3 bx2 with
            | nx ρ' b' => simp only [q4] at o3; exact fin o3
            | ct ρ' b' => simp only [q4] at o3; exact fin o3
            | bk ρ' b' => simp only [q4] at o3; exact o3
            | rt r b' => simp only [q4] at o3; exact o3
            | exn c ns ds ρ' b' => simp only [q4] at o3; exact o3
            | stk => simp only [q4] at o3; exact o3
      | _ => exact o2.elim
theorem ss_forE (k : Nat) {is : List Nat} {mi : ME} {g : D → Sl → Option Sl} {m : MS} {p p2 tpos : Pos} {elts : List Expr} {kk : Nat} (hF : Frm X W) (hgl : Gl X "enumerate") (hm : X.mg "enumerate" = none) (hi : SE X CA W e mi) (hg : SG X CA (.Tuple elts kk tpos) is g) (hb : SB X CA W sts m)
    (hs1 : starEach [e] X.env = [(false, eval e X.env)] := by rfl) (h1 : starEach [e] X.env = (false, eval e X.env) :: starEach [] X.env := by rfl)
    (hs : ∀ x, foldedSetIterable (.Call (.Name "enumerate" p) [e] [] p2) X.env x = pure x := by intro _; rfl) : SS X CA W (.For (.Tuple elts kk tpos) (.Call (.Name "enumerate" p) [e] [] p2) sts [] pos) (mForE k mi g m) := by
  obtain ⟨te, t1, t2⟩ := hi.dat
  obtain ⟨tg', g1, g2⟩ := hg.ex
  obtain ⟨tb, b1, b2⟩ := hb.ex
  refine ⟨_, ps_for hF.po hF.calm (pi_enum hgl hm (pa_cons t1 pa_nil h1) hs1) g1 b1 hs, fun ρ bx F μ σ H D s n o => ?_⟩
  have o' : OkS X.K CA W F μ H D (liftE ((mi ρ bx).map R.d) ρ fun d b => match d with | .box n => loopE g m n k 0 ρ b | _ => .stk) := by rw [liftE_map]; exact o
  refine t2 ρ bx F μ σ H _ s n ?_
  refine OkS.seqE s n o' fun d b v F1 H1 e1 s1 rr o1 => ?_
  cases d with
  | box j =>
    obtain ⟨a, rfl, ha⟩ := rr
    have hx : ∃ xs, SqL X.K H1 a xs := by
      cases q : b[j]? with
      | none =>
        have h1 := (List.getElem?_eq_some_iff.mp ha).1
        have h2 := List.getElem?_eq_none_iff.mp q
        rw [s1.len] at h2; omega
      | some d0 =>
        cases k with
        | zero => exact o1.elim
        | succ k =>
          have o3 : OkS X.K CA W F μ H D (loopE g m j (k + 1) 0 ρ b) := o1
          unfold loopE at o3
          rw [q] at o3
          cases d0 with
          | lst xs =>
            obtain ⟨vs, hv, _⟩ := s1.at_ j _ a q ha
            exact ⟨vs, .inl (.inl hv)⟩
          | _ => exact o3.elim
    obtain ⟨xs, hx⟩ := hx
    exact ⟨a, xs, rfl, hx, loopE_ok g2 b2 s1 ha (n.ext s e1) (OkS.shift e1.m s1 o1)⟩
  | _ => exact o1.elim
/-! ### name = [..], a box -/
theorem ss_boxComp {i : Nat} {y : Str} {py spos ipos : Pos} {elt : Expr} {ifs : List Expr} {scope : Scope} {own : List (Str × Nat)} {mi : MI} {g : D → Sl → Option Sl} {is : List Nat} {t : MB} {m : ME} (hc : X.calm = true) (hN : X.N.Nodup) (hy : X.N[i]? = some y) (hyl : X.env.scope.names.lookup y = some .local)
    (hsw : swapsWith (.ListComp elt [⟨tg, iter, ifs, 0⟩] scope ipos) (some (.Name y py)) spos.line X.env = pure true) (hi : SI X CA W tg iter mi) (ok : BlkOk X.N X.env.scope scope own) (hsub : ∀ i ∈ is, i ∈ own.map (·.2))
    (hg : ∀ (s : Shared) (H : Hp) (C : Addr) (cl : List (Str × Addr)) (fp : List Addr), SG (X.blk s H scope (compEnvC scope cl C X.env) fp) CA tg is g)
    (ht : ∀ (s : Shared) (H : Hp) (C : Addr) (cl : List (Str × Addr)) (fp : List Addr), PTs (X.blk s H scope (compEnvC scope cl C X.env) fp) ifs (tMB X.K CA W0 t))
    (he : ∀ (s : Shared) (H : Hp) (C : Addr) (cl : List (Str × Addr)) (fp : List Addr), SE (X.blk s H scope (compEnvC scope cl C X.env) fp) CA W0 elt m) (hs : ∀ x, foldedSetIterable iter X.env x = pure x := by intro _; rfl) :
    SS X CA W (.Assign [.Name y py] (.ListComp elt [⟨tg, iter, ifs, 0⟩] scope ipos) spos) (mBox (mComp mi (own.map (·.2)) g t m) i) := by
  obtain ⟨wi, i1, i2⟩ := hi.ex
  have h1 := ps_setLc (i := i) (py := py) (g := tMG X.K CA is g) (tt := tMB X.K CA W0 t) (te := tMD X.K CA W0 m) hc hN hy hyl hsw i1 ok (fun s H C cl fp => (hg s H C cl fp).t) ht (fun s H C cl fp => (he s H C cl fp).tD) hs
  have h2 := comp_ok (K := X.K) (W := W) (CA := CA) (t := t) (m := m) (g := g) hsub i2
  refine ⟨_, h1, fun ρ bx F μ σ H D s n o => h2 ρ bx F μ σ H _ s n ?_⟩
  refine OkS.seqE s n o fun r b v F1 H1 e1 s1 rr o1 => ?_
  cases r with
  | val d => exact o1.elim
  | new d =>
    obtain ⟨p, q1, q2, q3, q4, q5⟩ := rr
    subst q1
    have s2 := s1.push q3 q4 q5
    have e2 : ExtM F μ H F1 (μ ++ [p]) H1 := ⟨e1.up, e1.fr, e1.keep, [p], rfl, fun b hb => by
      have : b = p := by simpa using hb
      exact this ▸ q2⟩
    refine o1 _ F1 (μ ++ [p]) H1 e2 s2 ((n.extM s e2).set ⟨p, rfl, ?_⟩)
    rw [s1.len]
    simp
end
end DL

set_option Elab.async false
set_option linter.all false
set_option maxRecDepth 100000
set_option maxHeartbeats 4000000
/-! DL24: comprehensions over a box. -/
namespace DL
open PySem PySem.Spec L2
def compB (g : D → Sl → Option Sl) (t : MB) (m : ME) (n : Nat) : Nat → Nat → Sl → List D → List D → Out (List D)
  | 0, _, _, _, _ => .stk
  | k + 1, i, ρ, bx, acc => match bx[n]? with
    | some (.lst xs) => (match xs[i]? with
      | none => .ok acc bx
      | some d => (match g d ρ with
        | none => .stk
        | some ρ1 => (noX (t ρ1 bx)).bind fun kk b1 => if kk then (noX (m ρ1 b1)).bind fun r b2 => if acc.length < sizeLine then compB g t m n k (i + 1) ρ b2 (acc ++ [r.d]) else .stk else compB g t m n k (i + 1) ρ b1 acc))
    | _ => .stk
def mCompB (k : Nat) (mi : ME) (vs : List Nat) (g : D → Sl → Option Sl) (t : MB) (m : ME) : ME := fun ρ bx => (mi ρ bx).bind fun r b => match r.d with
  | .box n => (compB g t m n k 0 (wipeD ρ vs) b []).bind fun acc b' => .ok (.new (.lst acc)) b'
  | _ => .stk
section
variable {X : Cx} {CA : Ly} {W : WX} {elt tg iter : Expr} {ifs : List Expr} {scope : Scope} {own : List (Str × Nat)} {pos : Pos}
theorem compB_ok {K : PySem.W.Frag} {mi : ME} {g : D → Sl → Option Sl} {is : List Nat} {t : MB} {m : ME} {te : TE} {k0 : Nat} (hsub : ∀ i ∈ is, i ∈ own.map (·.2))
    (i2 : ∀ ρ bx F μ σ H Q, Sx K CA F μ H bx → En K CA F μ H ρ σ → OkG K CA W F μ σ H (fun F' H' => Rp K CA F' μ H') ((mi ρ bx).map R.d) Q → te σ H Q) :
    ∀ ρ bx F μ σ H Q, Sx K CA F μ H bx → En K CA F μ H ρ σ → OkG K CA W F μ σ H (fun F' H' => RRv K CA F' μ H H') (mCompB k0 mi (own.map (·.2)) g t m ρ bx) Q →
      tLc (fun σ H R => te σ H fun v H1 => ∃ a, v = .ref a ∧ (∃ xs, SqL K H1 a xs) ∧ R (Itl K a) H1) (tMG K CA is g) (tMB K CA W0 t) (tMD K CA W0 m) (own.map (·.2)) σ H Q := by
  intro ρ bx F μ σ H Q s n o
  refine i2 ρ bx F μ σ H _ s n ?_
  unfold mCompB at o
  cases q : mi ρ bx with
  | stk => rw [q] at o; exact o
  | exn c ns ds b => rw [q] at o; exact o
  | ok r b =>
    rw [q] at o
    intro v F1 H1 e1 s1 rr
    simp only [Out.bind_ok] at o
    cases hd : r.d with
    | box nn =>
      rw [hd] at rr o
      simp only at o
      obtain ⟨a, rfl, ha⟩ := rr
      have hx : ∃ xs, SqL K H1 a xs := by
        cases q : b[nn]? with
        | none =>
          have h1 := (List.getElem?_eq_some_iff.mp ha).1
          have h2 := List.getElem?_eq_none_iff.mp q
          rw [s1.len] at h2; omega
        | some d0 =>
          cases k0 with
          | zero => exact o.elim
          | succ k =>
            unfold compB at o
            rw [q] at o
            cases d0 with
            | lst xs =>
              obtain ⟨vs, hv, _⟩ := s1.at_ nn _ a q ha
              exact ⟨vs, .inl (.inl hv)⟩
            | _ => exact o.elim
      refine ⟨a, rfl, hx, ?_⟩
      intro D hD
      let vs := own.map (·.2)
      have nD := s1.notIn hD
      let P : Nat → Nat → Hp → Prop := fun i k' H2 => ∃ bx2 acc ws F2, Ext F1 μ H1 F2 H2 ∧ Sx K CA F2 μ H2 bx2 ∧ ¬ F2 D ∧ H2 D = some (.lst ws) ∧ Rps K CA F2 μ H2 acc ws ∧
        OkG K CA W F1 μ σ H1 (fun F' H' => RRv K CA F' μ H1 H') ((compB g t m nn k' i (wipeD ρ vs) bx2 acc).bind fun acc b' => .ok (.new (.lst acc)) b') Q
      refine ⟨fun i k' H2 => P i k' H2, ⟨k0, b, [], [], F1, Ext.tmp hD, s1.tmp hD, s1.notF hD, upd_same, trivial, OkG.shiftR e1 o⟩, ?_⟩
      rintro i k' H2 ⟨bx2, acc, ws, F2, e2, s2, f2, hD2, ra, o2⟩
      cases k' with
      | zero => exact o2.elim
      | succ k' =>
        unfold compB at o2
        cases q : bx2[nn]? with
        | none => rw [q] at o2; exact o2.elim
        | some d0 =>
          rw [q] at o2
          cases d0 with
          | lst xs =>
            obtain ⟨us, hv, rv⟩ := s2.at_ nn _ a q ha
            have sq : SqL K H2 a us := .inl (.inl hv)
            cases q2 : xs[i]? with
            | none =>
              simp only [q2] at o2
              have hi : us.length ≤ i := by rw [← rv.length]; exact List.getElem?_eq_none_iff.mp q2
              exact .inl ⟨⟨us, sq, hi⟩, o2 (.ref D) F2 H2 e2 s2 ⟨D, rfl, .of hD, nD, f2, ws, hD2, ra⟩⟩
            | some d =>
              simp only [q2] at o2
              obtain ⟨v, v1, v2⟩ := rv.get q2
              refine .inr ⟨⟨us, v, sq, v1⟩, P (i + 1) k', fun H' p => ⟨k', Nat.lt_succ_self _, p⟩, fun x H3 y => ?_⟩
              obtain ⟨rfl, y2⟩ := y
              have := y2 us sq
              rw [v1] at this; cases this
              cases qg : g d (wipeD ρ vs) with
              | none => simp only [qg] at o2; exact o2.elim
              | some ρ1 =>
                simp only [qg] at o2
                have e12 : Ext F μ H F2 H3 := e1.trans e2
                refine ⟨d, wipeD ρ vs, bx2, F2, μ, s2, (n.ext s e12).wipe vs, v2, ρ1, qg, fun σ2 n2 a2 => ⟨?_, ?_⟩⟩
                · rw [wipe_agr hsub a2, wipe_wipe]
                have keepD : ∀ {F4 : Addr → Prop} {H4 : Hp}, Ext F2 μ H3 F4 H4 → H4 D = some (.lst ws) ∧ ¬ F4 D := fun {F4 H4} e4 => by
                  refine ⟨e4.keep _ _ hD2 nD nt_lst, fun z => ?_⟩
                  rcases e4.fr D z with z | z
                  · exact f2 z
                  · exact z.1 _ hD2 nt_lst
                refine ⟨ρ1, bx2, F2, μ, s2, n2, ?_⟩
                cases qt : t ρ1 bx2 with
                | stk => rw [qt] at o2; exact o2.elim
                | exn c ns es b => rw [qt] at o2; exact o2.elim
                | ok kk b1 =>
                  rw [qt] at o2
                  intro v F4 H4 e4 s4 ev
                  subst ev
                  simp only [noX, Out.bind_ok] at o2
                  cases v with
                  | false =>
                    refine iteF ⟨b1, acc, ws, F4, e2.trans e4, s4, (keepD e4).2, (keepD e4).1, ra.ext s2 e4, ?_⟩
                    simpa using o2
                  | true =>
                    simp only [if_true] at o2
                    refine iteT ⟨ρ1, b1, F4, μ, s4, n2.ext s2 e4, ?_⟩
                    cases qm : m ρ1 b1 with
                    | stk => rw [qm] at o2; exact o2.elim
                    | exn c ns es b => rw [qm] at o2; exact o2.elim
                    | ok r b2 =>
                      rw [qm] at o2
                      intro yv F5 H5 e5 s5 ry
                      simp only [noX, Out.bind_ok] at o2
                      have e35 := e4.trans e5
                      by_cases hz : acc.length < sizeLine
                      · rw [if_pos hz] at o2
                        have ra5 := ra.ext s2 e35
                        have kd := keepD e35
                        have st : Stay F5 H5 (upd H5 D (.lst (ws ++ [yv]))) := fun a u fa h => by
                          rw [upd_ne (fun (z : a = D) => kd.2 (z ▸ fa))]; exact h
                        refine ⟨ws, kd.1, by rw [← ra5.length]; exact hz, b2, acc ++ [r.d], ws ++ [yv], F5, ?_, s5.free kd.2 nD kd.1, kd.2, upd_same, (Rps.append ra5 (show Rps K CA F5 μ H5 [r.d] [yv] from ⟨ry, trivial⟩)).mono (fun _ z => z) (fun _ _ z => z) st, o2⟩
                        have e25 := e2.trans e35
                        refine ⟨e25.up, e25.fr, fun a u h hm z => ?_⟩
                        rw [upd_ne (ne_of_none h hD)]; exact e25.keep a u h hm z
                      · rw [if_neg hz] at o2; exact o2.elim
          | _ => exact o2.elim
    | _ => rw [hd] at o; exact o.elim
theorem se_compB (k : Nat) {mi : ME} {g : D → Sl → Option Sl} {is : List Nat} {t : MB} {m : ME} (hc : X.calm = true) (hN : X.N.Nodup) (hi : SE X CA W iter mi) (ok : BlkOk X.N X.env.scope scope own) (hsub : ∀ i ∈ is, i ∈ own.map (·.2))
    (hg : ∀ (s : Shared) (H : Hp) (C : Addr) (cl : List (Str × Addr)) (fp : List Addr), SG (X.blk s H scope (compEnvC scope cl C X.env) fp) CA tg is g)
    (ht : ∀ (s : Shared) (H : Hp) (C : Addr) (cl : List (Str × Addr)) (fp : List Addr), PTs (X.blk s H scope (compEnvC scope cl C X.env) fp) ifs (tMB X.K CA W0 t))
    (he : ∀ (s : Shared) (H : Hp) (C : Addr) (cl : List (Str × Addr)) (fp : List Addr), SE (X.blk s H scope (compEnvC scope cl C X.env) fp) CA W0 elt m) (hs : ∀ x, foldedSetIterable iter X.env x = pure x := by intro _; rfl) :
    SE X CA W (.ListComp elt [⟨tg, iter, ifs, 0⟩] scope pos) (mCompB k mi (own.map (·.2)) g t m) := by
  obtain ⟨te, t1, t2⟩ := hi.dat
  exact ⟨_, pe_lc hc hN (pi_list t1) ok (fun s H C cl fp => (hg s H C cl fp).t) ht (fun s H C cl fp => (he s H C cl fp).tD) hs, compB_ok hsub fun ρ bx F μ σ H Q s n o => t2 ρ bx F μ σ H Q s n o⟩
theorem ss_boxCompB (k : Nat) {i : Nat} {y : Str} {py spos : Pos} {mi : ME} {g : D → Sl → Option Sl} {is : List Nat} {t : MB} {m : ME} (hc : X.calm = true) (hN : X.N.Nodup) (hy : X.N[i]? = some y) (hyl : X.env.scope.names.lookup y = some .local)
    (hsw : swapsWith (.ListComp elt [⟨tg, iter, ifs, 0⟩] scope pos) (some (.Name y py)) spos.line X.env = pure true) (hi : SE X CA W iter mi) (ok : BlkOk X.N X.env.scope scope own) (hsub : ∀ i ∈ is, i ∈ own.map (·.2))
    (hg : ∀ (s : Shared) (H : Hp) (C : Addr) (cl : List (Str × Addr)) (fp : List Addr), SG (X.blk s H scope (compEnvC scope cl C X.env) fp) CA tg is g)
    (ht : ∀ (s : Shared) (H : Hp) (C : Addr) (cl : List (Str × Addr)) (fp : List Addr), PTs (X.blk s H scope (compEnvC scope cl C X.env) fp) ifs (tMB X.K CA W0 t))
    (he : ∀ (s : Shared) (H : Hp) (C : Addr) (cl : List (Str × Addr)) (fp : List Addr), SE (X.blk s H scope (compEnvC scope cl C X.env) fp) CA W0 elt m) (hs : ∀ x, foldedSetIterable iter X.env x = pure x := by intro _; rfl) :
    SS X CA W (.Assign [.Name y py] (.ListComp elt [⟨tg, iter, ifs, 0⟩] scope pos) spos) (mBox (mCompB k mi (own.map (·.2)) g t m) i) := by
  obtain ⟨te, t1, t2⟩ := hi.dat
  have h1 := ps_setLc (i := i) (py := py) (g := tMG X.K CA is g) (tt := tMB X.K CA W0 t) (te := tMD X.K CA W0 m) hc hN hy hyl hsw (pi_list t1) ok (fun s H C cl fp => (hg s H C cl fp).t) ht (fun s H C cl fp => (he s H C cl fp).tD) hs
  have h2 := compB_ok (K := X.K) (W := W) (CA := CA) (t := t) (m := m) (g := g) (k0 := k) hsub fun ρ bx F μ σ H Q s n o => t2 ρ bx F μ σ H Q s n o
  refine ⟨_, h1, fun ρ bx F μ σ H D s n o => h2 ρ bx F μ σ H _ s n ?_⟩
  refine OkS.seqE s n o fun r b v F1 H1 e1 s1 rr o1 => ?_
  cases r with
  | val d => exact o1.elim
  | new d =>
    obtain ⟨p, q1, q2, q3, q4, q5⟩ := rr
    subst q1
    have s2 := s1.push q3 q4 q5
    have e2 : ExtM F μ H F1 (μ ++ [p]) H1 := ⟨e1.up, e1.fr, e1.keep, [p], rfl, fun b hb => by
      have : b = p := by simpa using hb
      exact this ▸ q2⟩
    refine o1 _ F1 (μ ++ [p]) H1 e2 s2 ((n.extM s e2).set ⟨p, rfl, ?_⟩)
    rw [s1.len]
    simp
theorem ss_setCompB (k : Nat) {i : Nat} {y : Str} {py spos : Pos} {mi : ME} {g : D → Sl → Option Sl} {is : List Nat} {t : MB} {m : ME} (hc : X.calm = true) (hN : X.N.Nodup) (hy : X.N[i]? = some y) (hyl : X.env.scope.names.lookup y = some .local)
    (hsw : swapsWith (.ListComp elt [⟨tg, iter, ifs, 0⟩] scope pos) (some (.Name y py)) spos.line X.env = pure true) (hi : SE X CA W iter mi) (ok : BlkOk X.N X.env.scope scope own) (hsub : ∀ i ∈ is, i ∈ own.map (·.2))
    (hg : ∀ (s : Shared) (H : Hp) (C : Addr) (cl : List (Str × Addr)) (fp : List Addr), SG (X.blk s H scope (compEnvC scope cl C X.env) fp) CA tg is g)
    (ht : ∀ (s : Shared) (H : Hp) (C : Addr) (cl : List (Str × Addr)) (fp : List Addr), PTs (X.blk s H scope (compEnvC scope cl C X.env) fp) ifs (tMB X.K CA W0 t))
    (he : ∀ (s : Shared) (H : Hp) (C : Addr) (cl : List (Str × Addr)) (fp : List Addr), SE (X.blk s H scope (compEnvC scope cl C X.env) fp) CA W0 elt m) (hs : ∀ x, foldedSetIterable iter X.env x = pure x := by intro _; rfl) :
    SS X CA W (.Assign [.Name y py] (.ListComp elt [⟨tg, iter, ifs, 0⟩] scope pos) spos) (mAsg (mCompB k mi (own.map (·.2)) g t m) (gN i)) := by
  obtain ⟨te, t1, t2⟩ := hi.dat
  have h1 := ps_setLc (i := i) (py := py) (g := tMG X.K CA is g) (tt := tMB X.K CA W0 t) (te := tMD X.K CA W0 m) hc hN hy hyl hsw (pi_list t1) ok (fun s H C cl fp => (hg s H C cl fp).t) ht (fun s H C cl fp => (he s H C cl fp).tD) hs
  have h2 := compB_ok (K := X.K) (W := W) (CA := CA) (t := t) (m := m) (g := g) (k0 := k) hsub fun ρ bx F μ σ H Q s n o => t2 ρ bx F μ σ H Q s n o
  refine ⟨_, h1, fun ρ bx F μ σ H D s n o => h2 ρ bx F μ σ H _ s n (OkG.unfrz s ?_)⟩
  have o' : OkS X.K CA W F μ H D (liftE ((mCompB k mi (own.map (·.2)) g t m ρ bx).map R.d) ρ fun d b => .nx (ρ.set i (some d)) b) := by rw [liftE_map]; exact o
  exact OkS.seqE s n o' fun d b v F1 H1 e1 s1 rr o1 => o1 _ F1 μ H1 e1.m s1 ((n.ext s e1).set rr)
end
end DL

set_option Elab.async false
set_option linter.all false
set_option maxRecDepth 100000
set_option maxHeartbeats 4000000
/-! DLZ: the law's call at the top, where nothing is being shown. -/
namespace DL
open PySem PySem.Spec PyProof.Rows L2
abbrev tObj : Obj := { cls := .none, data := .fields #[] }
abbrev sObjL (vs : List Value) : Obj := { cls := .type "list", data := .seq vs.toArray }
/-- what is tracked at the start: empty tables, and the script unless it is known anyway -/
def hp0 (T : List Addr) (a : Addr) (f : Option HO) : Hp := fun b => if b ∈ T then some (.tbl #[]) else if b = a then f else none
theorem hp0_in {T : List Addr} {a b : Addr} {f : Option HO} (h : b ∈ T) : hp0 T a f b = some (.tbl #[]) := if_pos h
theorem hp0_a {T : List Addr} {a : Addr} {f : Option HO} (h : a ∉ T) : hp0 T a f a = f := (if_neg h).trans (if_pos rfl)
theorem hp0_no {T : List Addr} {a b : Addr} {f : Option HO} (h : b ∉ T) (h' : b = a → f = none) : hp0 T a f b = none := by
  unfold hp0
  rw [if_neg h]
  by_cases e : b = a
  · rw [if_pos e]; exact h' e
  · rw [if_neg e]
theorem hp0_so {T : List Addr} {a b : Addr} {f : Option HO} {u : HO} (h : hp0 T a f b = some u) : (b ∈ T ∧ u = .tbl #[]) ∨ (b ∉ T ∧ b = a ∧ f = some u) := by
  unfold hp0 at h
  by_cases e : b ∈ T
  · rw [if_pos e] at h; cases h; exact .inl ⟨e, rfl⟩
  · rw [if_neg e] at h
    by_cases e2 : b = a
    · rw [if_pos e2] at h; exact .inr ⟨e, e2, h⟩
    · rw [if_neg e2] at h; cases h
/-- how the law's call ends -/
def TopEnd (t : Shared) (r : Result) (z : Shared) : Prop := r = .ok (.ret (.bool true)) ∧ OldK t.heap z.heap ∧ z.os = t.os ∧ AllBare z.gens
section
variable {P : Program} {w : World} {K : PySem.W.Frag} {mg mb : Str → Option Value} {CX : CXT} {k : Nat} {fa a : Addr} {cs : List (Addr × Addr)} {sp : Sp} {t : Shared} {vs : List Value} {ns : List Int}
theorem top_call (kin : K.In t.heap) (gl : t.heap.Ns mainGlobals mg) (bl : t.heap.Ns builtinsNs mb) (bb : ∀ x : Str, x ≠ "__name__" → mb x = bootBuiltins x) (nl : t.heap.NoLimit) (ge : t.gens = #[])
    (tE : ∀ p ∈ cs, t.heap.get? p.2 = some tObj) (tK : ∀ p ∈ cs, K.lookup p.2 = none) (tC : ∀ p ∈ cs, PySem.W.codeHdIn K p.1 p.2 = true)
    (bm : ∃ (x : Addr) (o : Obj), mg "__builtins__" = some (.ref x) ∧ x ≠ builtinsNs ∧ t.heap.get? x = some o ∧ o.cls = .type "module" ∧ o.dict = some builtinsNs ∧ o.data = .plain)
    (ha : t.heap.get? a = some (sObjL vs)) (hi : IntsAre vs ns) (hl : ns.length ≤ sizeLine) (rm : L2.Room k callerA)
    (F : ∀ b0 : Heap, K.In b0 → b0.Ns mainGlobals mg → (∀ p ∈ cs, LamX.TabB b0 mg p.1 p.2) → DL.FnR P w K mg b0 CX k fa sp)
    (hs : ∀ H : Hp, (∀ p ∈ cs, H p.2 = some (.tbl #[])) → SqL K H a (ns.map V.int) → sp [.ref a] H (fun v _ => v = .bl true) fun _ _ _ => False)
    (hx : ∀ H e z, CX [] H t (fun _ _ _ => False) e z → False) : codeAny (model P w) callerA (.call (.ref fa) ⟨[.ref a], []⟩) (TopEnd t) t := by
  have rv := vals_ints hi
  have lv := hi.length
  have mT : ∀ b, b ∈ cs.map Prod.snd → ∃ p ∈ cs, p.2 = b := fun b h => List.mem_map.mp h
  have inT : ∀ p ∈ cs, p.2 ∈ cs.map Prod.snd := fun p h => List.mem_map.mpr ⟨p, h, rfl⟩
  have gT : ∀ b, b ∈ cs.map Prod.snd → t.heap.get? b = some tObj := fun b h => by
    obtain ⟨p, hp, rfl⟩ := mT b h
    exact tE p hp
  have kT : ∀ b, b ∈ cs.map Prod.snd → K.lookup b = none := fun b h => by
    obtain ⟨p, hp, rfl⟩ := mT b h
    exact tK p hp
  have aT : a ∉ cs.map Prod.snd := fun h => by
    have q := congrArg (fun o => o.map Obj.cls) (ha.symm.trans (gT a h))
    exact absurd (Option.some.inj q) (by intro z; cases z)
  obtain ⟨f, hf⟩ : ∃ f : Option HO, (f = none ∧ ∃ o, K.lookup a = some o) ∨ (f = some (.frz (sObjL vs) (.lst (ns.map V.int))) ∧ K.lookup a = none) := by
    cases q : K.lookup a with
    | none => exact ⟨_, .inr ⟨rfl, rfl⟩⟩
    | some o => exact ⟨none, .inl ⟨rfl, o, rfl⟩⟩
  let H : Hp := hp0 (cs.map Prod.snd) a f
  have onT : ∀ p ∈ cs, H p.2 = some (.tbl #[]) := fun p h => hp0_in (inT p h)
  have hok : HOk P w H t.heap := fun b u h => by
    rcases hp0_so h with ⟨h1, rfl⟩ | ⟨_, rfl, h2⟩
    · exact gT b h1
    · rcases hf with ⟨h3, _⟩ | ⟨h3, _⟩
      · rw [h3] at h2; cases h2
      · rw [h3] at h2; cases h2
        exact ⟨ha, by rw [List.length_map]; exact hl, vs, 0, rv, ha⟩
  have sq : SqL K H a (ns.map V.int) := by
    rcases hf with ⟨_, o, h4⟩ | ⟨h3, _⟩
    · have h5 := kin a o h4
      rw [ha] at h5; cases h5
      exact .inr ⟨sObjL vs, vs.toArray, 0, h4, rfl, rfl, rfl, by rw [List.size_toArray, lv]; exact hl, rv⟩
    · exact .inl (.inr ⟨sObjL vs, (hp0_a aT).trans h3⟩)
  -- all else is seen
  have seen : ∀ {b : Addr} {o : Obj}, t.heap.get? b = some o → (∀ l, o.data = .fields l → False) → (∀ l n, o.data = .seq l n → False) → (hidT t.heap H).get? b = some o := fun {b o} e n1 n2 =>
    hidT_get e (hp0_no (fun h => by rw [gT b h] at e; cases e; exact n1 _ rfl) fun h => by rw [h, ha] at e; cases e; exact (n2 _ _ rfl).elim)
  have names : ∀ {b : Addr} {m : Str → Option Value}, t.heap.Ns b m → (hidT t.heap H).Ns b m := fun {b m} ⟨o, es, ep, e, d, r⟩ =>
    ⟨o, es, ep, seen e (fun l z => by rw [d] at z; cases z) (fun l n z => by rw [d] at z; cases z), d, r⟩
  have kin' : K.In (hidT t.heap H) := fun b o e => hidT_get (kin b o e) (hp0_no (fun h => by rw [kT b h] at e; cases e) fun h => by
    subst h
    rcases hf with ⟨h3, _⟩ | ⟨_, h4⟩
    · exact h3
    · rw [h4] at e; cases e)
  have tabs : ∀ p ∈ cs, LamX.TabB (hidT t.heap H) mg p.1 p.2 := fun p hp => by
    obtain ⟨x, o, m1, m2, m3, m4, m5, m6⟩ := bm
    have glT : mainGlobals ≠ p.2 := fun z => by
      obtain ⟨o', es, ep, e, d, _⟩ := gl
      rw [z, tE p hp] at e
      cases e
      cases d
    refine ⟨PySem.W.codeHd_of_K kin' (tC p hp), ⟨x, o, m1, m2, fun z => ?_, fun z => ?_, seen m3 (fun l z => by rw [m6] at z; cases z) (fun l n z => by rw [m6] at z; cases z), m4, m5, m6⟩, glT⟩
    · obtain ⟨o', es, ep, e, d, _⟩ := gl
      rw [z, e] at m3; cases m3
      rw [m6] at d; cases d
    · rw [z, tE p hp] at m3; cases m3
      cases m6
  have nl' : (hidT t.heap H).NoLimit := by
    obtain ⟨mc, l1, l2⟩ := nl
    exact ⟨mc, names l1, l2⟩
  have e0 : Env0 P w K mg (hidT t.heap H) callerA [] t H :=
    ⟨rfl, ⟨kin', names gl, ⟨mb, names bl, bb⟩, nl'⟩, fun b o e => of_hidT e, by rw [hidT_size]; exact Nat.le_refl _, trivial, fun b hb => by simp [frs] at hb, hok, .of_eq ge⟩
  have go := F _ kin' (names gl) tabs callerA [] t H [.ref a] [.ref a] (fun v _ => v = .bl true) (fun _ _ _ => False) { rm with gd := rfl } e0 (.cons rfl .nil) (hs H onT sq)
  refine codeAny_mono go fun r z hz => ?_
  cases r with
  | error e => exact (hx H e z hz).elim
  | ok fl =>
    cases fl with
    | next => exact hz.elim
    | brk => exact hz.elim
    | cont => exact hz.elim
    | ret u =>
      obtain ⟨v, H', o1, o2, un, ho, rv', hv⟩ := hz
      have hv : v = .bl true := hv
      subst hv
      have hu : u = Value.bool true := rv'
      subst hu
      have stay : ∀ b o, b ∉ cs.map Prod.snd → t.heap.get? b = some o → z.heap.get? b = some o := fun b o nb e => by
        cases q : H b with
        | none => exact un.keep b o e q (by simp [frs]) (by simp)
        | some u =>
          rcases hp0_so q with ⟨h1, _⟩ | ⟨_, rfl, h2⟩
          · exact (nb h1).elim
          · rcases hf with ⟨h3, _⟩ | ⟨h3, _⟩
            · rw [h3] at h2; cases h2
            · rw [h3] at h2; cases h2
              rw [ha] at e; cases e
              exact (ho _ _ (un.frzs _ _ _ q)).1
      have more : ∀ p ∈ cs, ∃ ms : Array Value, z.heap.get? p.2 = some { cls := .none, data := .fields ms } := fun p hp => by
        obtain ⟨ms, q⟩ := un.tbls _ _ (onT p hp)
        exact ⟨_, ho _ _ q⟩
      refine ⟨rfl, ⟨fun b o e => ?_, fun b o e => ?_⟩, o1, o2⟩
      · by_cases hb : b ∈ cs.map Prod.snd
        · obtain ⟨p, hp, rfl⟩ := mT b hb
          obtain ⟨ms, q⟩ := more p hp
          have e' := e
          rw [tE p hp] at e'; cases e'
          exact .inr (.inl ⟨((PySem.W.codeHd_of_K kin (tC p hp)).tab (tE p hp)).isCodeTable, rfl, #[], ms, rfl, by rw [Array.empty_append]; exact q⟩)
        · exact .inl (stay b o hb e)
      · by_cases hb : b ∈ cs.map Prod.snd
        · obtain ⟨p, hp, rfl⟩ := mT b hb
          obtain ⟨ms, q⟩ := more p hp
          exact ⟨_, q⟩
        · exact ⟨o, stay b o hb e⟩
end
/-- what the law's def promises, as the head leaves the heap -/
def LawD (l : PySem.W.OpenLaw) (w : World) (K : PySem.W.Frag) (k n : Nat) (mg : Str → Option Value) (fa : Addr) (h : Heap) : Prop :=
  ∃ (cs : List (Addr × Addr)) (sp : Sp), (∀ p ∈ cs, h.get? p.2 = some tObj ∧ K.lookup p.2 = none ∧ PySem.W.codeHdIn K p.1 p.2 = true) ∧
    (∀ (H : Hp) (a : Addr) (ns : List Int), ns.length ≤ n → (∀ p ∈ cs, H p.2 = some (.tbl #[])) → SqL K H a (ns.map V.int) → sp [.ref a] H (fun v _ => v = .bl true) fun _ _ _ => False) ∧
    ∀ b0 : Heap, K.In b0 → b0.Ns mainGlobals mg → (∀ p ∈ cs, LamX.TabB b0 mg p.1 p.2) → DL.FnR l.prog w K mg b0 (L2.CX l.prog w) k fa sp
theorem top_walk {l : PySem.W.OpenLaw} {n k : Nat} {q : Program} {loose : List Str} {XP : (Str → Option Value) → Heap → Prop} {YP : World → Heap → Prop} {d : DefRec} (hn : l.most = some n) (h2 : n ≤ sizeLine) (hd : d.params.defaults = []) (rm : L2.Room k callerA)
    (F : ∀ (w : World) (mg : Str → Option Value) (fa : Addr) (h : Heap), YP w h → h.Ns mainGlobals mg → mg d.name = some (.ref fa) → ∃ K : PySem.W.Frag, K.In h ∧ LawD l w K k n mg fa h) :
    PySem.W.WalkO q loose XP YP l.row.toRowW d [] (fun f vs => PySem.call f vs) := by
  refine Att.attach_callB hn hd fun w t0 t mg mb fa o pm cd dc a vs ns G Y g1 g2 g3 g4 g5 g6 g7 _ g8 => ?_
  obtain ⟨K, kin, cs, sp, hT, hs, hF⟩ := F w mg fa _ Y G.T.g g4
  exact top_call kin G.T.g G.T.b G.T.builtins G.T.nolimit g8 (fun p h => (hT p h).1) (fun p h => (hT p h).2.1) (fun p h => (hT p h).2.2) G.T.bmain g5 g6 (Nat.le_trans g7 h2) rm hF (fun H => hs H a ns g7)
    fun H e z ⟨_, _, _, _, _, _, _, _, _, _, _, _, x⟩ => x
end DL

set_option Elab.async false
set_option linter.all false
set_option maxRecDepth 100000
set_option maxHeartbeats 4000000
/-! DLY: a def whose code object is known; def f(a, .., *v). -/
namespace DL
open PySem PySem.Spec L2
theorem sf_lam {P : Program} {w : World} {K : PySem.W.Frag} {mg : PySem.Str → Option Value} {base : Heap} {CA : Ly} {x qual : PySem.Str} {params : Arguments} {st : List Stmt} {scope : Scope} {dvs : List V} {kws : List (PySem.Str × V)} {a : PySem.Str × Option PySem.Str} {fd : FuncData} {N ps : List PySem.Str} {k : Nat} {ms : MS}
    (F : FunD K x qual params st scope dvs kws (He.fAd K a) fd) (S : FnScope N ps scope)
    (hb : ∀ (cdv : Value), cdv = .ref (He.codeOf K a) → ∀ (A : Around) (outer : List Env) (s : Shared) (H : Hp) (E : XK), DL.Room k (A.deeper (PyProof.Rows.envOfC qual scope s.heap.objs.size (He.fAd K a) cdv)) → Frm (cxOf (L2.CX P w) P w K mg base N qual scope (He.fAd K a) cdv A outer s H E) (fun cls d _ H => E cls d H) →
      SB (cxOf (L2.CX P w) P w K mg base N qual scope (He.fAd K a) cdv A outer s H E) CA (fun cls d _ H => E cls d H) st ms) :
    DL.FnOk P w K mg base (L2.CX P w) (k + 1) (He.fAd K a) fd ps (spM K CA ps.length (body N.length ms)) := by
  have hpl : ps.length ≤ N.length := by have := congrArg List.length S.pre; rw [List.length_take] at this; omega
  refine fn_body F S (fun vs H Q E h => h.len) fun cdv A outer s H vs Q E hcd ⟨oc, od, dV, kV, doc, pm, an, ct, osl, lk⟩ hr h => ?_
  obtain ⟨c, rfl⟩ := He.codeIn_ref hcd
  have e := He.codeOf_eq lk rfl
  exact body_ok hpl (hb _ (by rw [e]) A outer s H E hr ⟨takes_of rfl rfl rfl rfl, passes_of rfl, rfl⟩) h
/-- def f(a, .., *v) -/
theorem sf_star {P : Program} {w : World} {K : PySem.W.Frag} {mg : PySem.Str → Option Value} {base : Heap} {CA : Ly} {x qual pv : PySem.Str} {params : Arguments} {st : List Stmt} {scope : Scope} {kws : List (PySem.Str × V)} {f : Addr} {fd : FuncData} {N ps : List PySem.Str} {k : Nat} {ms : MS}
    (F : FunD K x qual params st scope [] kws f fd) (S : FnScope N (ps ++ [pv]) scope)
    (hB : ∀ (kV doc pm : Value) (an : Option Addr) (cdv ct : Value) (us rest : List Value), us.length = ps.length → bindArgs (PySem.W.fnOf x qual params st scope .none kV doc pm an cdv ct) ⟨us ++ rest, []⟩ = (newTuple rest >>= fun t => pure (ps.zip us ++ [(pv, t)])))
    (hb : ∀ (cdv : Value) (A : Around) (outer : List Env) (s : Shared) (H : Hp) (E : XK), DL.Room k (A.deeper (PyProof.Rows.envOfC qual scope s.heap.objs.size f cdv)) → Frm (cxOf (L2.CX P w) P w K mg base N qual scope f cdv A outer s H E) (fun cls d _ H => E cls d H) →
      SB (cxOf (L2.CX P w) P w K mg base N qual scope f cdv A outer s H E) CA (fun cls d _ H => E cls d H) st ms) :
    DL.FnR P w K mg base (L2.CX P w) (k + 1) f (spR K CA (starA ps.length (body N.length ms))) := by
  have hpl : (ps ++ [pv]).length ≤ N.length := by have := congrArg List.length S.pre; rw [List.length_take] at this; omega
  obtain ⟨oc, od, dV, kV, doc, pm, an, cdv, ct, osl, rfl, lk, hcd, hD, _⟩ := F.ex
  rcases hD with ⟨_, rfl⟩ | ⟨e, _⟩
  · refine fn_starR fun A up s H us ws R E r e0 v ⟨w1, rest, ev, l1, l2, q⟩ => ?_
    subst ev
    obtain ⟨u1, u2, eu, r1, r2⟩ := StX.vals_split v
    subst eu
    have lu : u1.length = ps.length := by rw [← r1.length]; exact l1
    have lr : u2.length ≤ sizeLine := by rw [← r2.length]; exact l2
    have fr := e0.hok.fresh (Nat.le_refl s.heap.objs.size)
    refine StX.run_bnd (G := fun xs H2 => ∃ p, H p = none ∧ xs = w1 ++ [V.ref p] ∧ H2 = upd H p (.tup rest)) lk hcd S r.toRoom e0 (fun A' Ex Q' h => ?_) fun s2 H2 xs ⟨p, hp, ex, eH⟩ _ => ?_
    · rw [hB kV doc pm an cdv ct u1 u2 lu]
      have nw : ObjOk P w (upd H s.heap.objs.size (.tup rest)) (s.heap.push ({ cls := .type "tuple", data := .seq u2.toArray } : Obj)) s.heap.objs.size (.tup rest) := ⟨l2, u2, r2, _, Heap.get?_push_size _ rfl, rfl, _, rfl⟩
      have un := StX.un_laid (fs := frs up) (s := s) (o := ({ cls := .type "tuple", data := .seq u2.toArray } : Obj)) (u := .tup rest) fr
      have z := h _ _ (w1 ++ [V.ref s.heap.objs.size]) (u1 ++ [Value.ref s.heap.objs.size]) (StX.env0_laid e0 nw) un rfl (fun e s' => StX.cxUp up s H _ _ E e s' un (fun b o y => Heap.get?_push_of_some _ y) rfl) (r1.append (.cons rfl .nil)) (by rw [List.length_append, List.length_append, l1]; rfl) ⟨_, fr, rfl, rfl⟩
      rw [List.zip_append lu.symm] at z
      exact wpAny_bind (wpAny_newTuple (wpAny_pure z) lr)
    · subst ex eH
      exact body_ok hpl (hb cdv A up s2 _ E (r.deeper _) ⟨takes_of rfl rfl rfl rfl, passes_of rfl, rfl⟩) (show spM K CA (ps ++ [pv]).length (body N.length ms) (w1 ++ [V.ref p]) (upd H p (.tup rest)) R E by rw [List.length_append]; exact q p hp)
  · exact absurd rfl e
end DL

set_option Elab.async false
set_option linter.all false
set_option maxRecDepth 100000
set_option maxHeartbeats 4000000
/-! DLX: what the top leaves, for any list of names, classes, defs; how it is looked at. -/
namespace DX
open PySem PySem.Spec PyProof.Rows L2 DL
/-- what a law's module has: names, built-in names that it leaves alone, classes by number, defs, class methods' defs, fields, methods, class methods, classes with an own ==, methods that calls of instances find, defs that make lambdas, isinstance -/
structure Dat where
  gn : List PySem.Str
  bn : List PySem.Str
  cn : List PySem.Str
  defs : List He.DefD
  dcms : List He.DefD
  fl : List (Nat × PySem.Str)
  mt : List (Nat × PySem.Str)
  cm : List (Nat × PySem.Str)
  eqs : List Nat
  fi : List (Nat × PySem.Str)
  tf : List (He.Defn × PySem.Str)
  cs : List Nat
  kit : Nat → Nat → Bool
def Dat.nm (d : Dat) (c : Nat) : PySem.Str := (d.cn[c]?).getD "?"
theorem Dat.nm_eq {d : Dat} {c : Nat} {x : PySem.Str} (e : d.cn[c]? = some x) : d.nm c = x := by unfold Dat.nm; rw [e]; rfl
/-- the def of a class method -/
def cmA (K : PySem.W.Frag) (c m : PySem.Str) : Addr := match PySem.W.findIn K (.ref (He.ga K c)) m with
  | some (some (.ref p)) => (match PySem.W.recIn K p "classmethod" with
    | some (.ref g :: _) => g
    | _ => 0)
  | _ => 0
abbrev cdA (K : PySem.W.Frag) (a : He.Defn) : Addr := He.codeOf K a
abbrev tbA (K : PySem.W.Frag) (a : He.Defn) : Addr := He.tabOf K (He.codeOf K a)
def lamQ (q : PySem.Str) : PySem.Str := q ++ ".<locals>." ++ "<lambda>"
/-- classes and tables -/
def Dat.ly (d : Dat) (K : PySem.W.Frag) : Ly := ⟨fun c => He.ga K (d.nm c), d.tf.map fun a => (tbA K a.1, lamQ a.2)⟩
/-- what the top leaves -/
structure Ht (d : Dat) (K : PySem.W.Frag) (mg : PySem.Str → Option Value) (base : Heap) (CA : Ly) : Prop where
  glo : ∀ x ∈ d.gn, mg x = some (.ref (He.ga K x))
  free : ∀ x ∈ d.bn, mg x = none
  kps : ∀ x ∈ d.gn, PySem.W.keepIn K (.ref (He.ga K x)) = true
  dfs : ∀ q ∈ d.defs, ∃ fd, FunD K q.name q.qual q.params q.body q.scope (q.dvs K) (q.kws K) (He.fAd K q.at_) fd
  dcs : ∀ q ∈ d.dcms, ∀ m, q.at_.2 = some m → ∃ fd, FunD K q.name q.qual q.params q.body q.scope [] [] (cmA K q.at_.1 m) fd
  ca : ∀ c, CA c = He.ga K (d.nm c)
  kc' : ∀ c, c < d.cn.length → KC K (CA c)
  sf' : ∀ c, c < d.cn.length → PySem.W.selfFirst K (CA c) = true
  cr' : ∀ c, c < d.cn.length → ClX.CRead K (CA c) (.type "type")
  mk' : ∀ c, c < d.cn.length → Mk K (CA c) (He.fAd K (d.nm c, some "__init__"))
  na' : ∀ p ∈ d.fl, NoAttr K (CA p.1) p.2
  mt' : ∀ p ∈ d.mt, Meth K (CA p.1) p.2 (He.fAd K (d.nm p.1, some p.2))
  cm' : ∀ p ∈ d.cm, ∃ q, ClX.CMet K (CA p.1) (.type "type") p.2 q (cmA K (d.nm p.1) p.2)
  fi' : ∀ p ∈ d.fi, PySem.W.fnIn K (He.fAd K (d.nm p.1, some p.2)) = true
  eq' : ∀ c ∈ d.eqs, EqC K CA d.cs (CA c) (He.fAd K (d.nm c, some "__eq__"))
  csn : ∀ c ∈ d.cs, c < d.cn.length
  kit : ∀ a ∈ codes d.cs, ∀ b ∈ codes d.cs, PySem.W.kitOne K (tcV CA a) (tcV CA b) = some (d.kit a b)
  tb' : ∀ a ∈ d.tf, LamX.TabB base mg (cdA K a.1) (tbA K a.1)
  tab : CA.tb = d.tf.map fun a => (tbA K a.1, lamQ a.2)
  tne : ∀ a ∈ d.tf, ∀ b ∈ d.tf, tbA K a.1 = tbA K b.1 → a.2 = b.2
section
variable {d : Dat} {K : PySem.W.Frag} {mg : PySem.Str → Option Value} {base : Heap} {CA : Ly}
theorem Ht.g (h : Ht d K mg base CA) (i : Nat) {x : PySem.Str} (e : d.gn[i]? = some x := by rfl) : mg x = some (.ref (He.ga K x)) := h.glo x (List.mem_of_getElem? e)
theorem Ht.b (h : Ht d K mg base CA) (i : Nat) {x : PySem.Str} (e : d.bn[i]? = some x := by rfl) : mg x = none := h.free x (List.mem_of_getElem? e)
theorem Ht.kp (h : Ht d K mg base CA) (i : Nat) {x : PySem.Str} (e : d.gn[i]? = some x := by rfl) : PySem.W.keepIn K (.ref (He.ga K x)) = true := h.kps x (List.mem_of_getElem? e)
theorem Ht.gC (h : Ht d K mg base CA) (c i : Nat) {x : PySem.Str} (e : d.gn[i]? = some x := by rfl) (e2 : d.cn[c]? = some x := by rfl) : mg x = some (.ref (CA c)) := by rw [h.ca, Dat.nm_eq e2]; exact h.g i e
theorem Ht.lt {c : Nat} {x : PySem.Str} (e2 : d.cn[c]? = some x) : c < d.cn.length := (List.getElem?_eq_some_iff.mp e2).1
theorem Ht.cl (h : Ht d K mg base CA) (c : Nat) (e : c < d.cn.length := by decide) : Cls K (CA c) := (h.kc' c e).cl
theorem Ht.sf (h : Ht d K mg base CA) (c : Nat) (e : c < d.cn.length := by decide) : PySem.W.selfFirst K (CA c) = true := h.sf' c e
theorem Ht.cr (h : Ht d K mg base CA) (c : Nat) (e : c < d.cn.length := by decide) : ClX.CRead K (CA c) (.type "type") := h.cr' c e
theorem Ht.mkC (h : Ht d K mg base CA) (c : Nat) {x : PySem.Str} (e2 : d.cn[c]? = some x := by rfl) : Mk K (CA c) (He.fAd K (x, some "__init__")) := by
  have z := h.mk' c (Ht.lt e2)
  rwa [Dat.nm_eq e2] at z
theorem Ht.mt (h : Ht d K mg base CA) (i : Nat) {c : Nat} {m x : PySem.Str} (e : d.mt[i]? = some (c, m) := by rfl) (e2 : d.cn[c]? = some x := by rfl) : Meth K (CA c) m (He.fAd K (x, some m)) := by
  have z := h.mt' _ (List.mem_of_getElem? e)
  rwa [Dat.nm_eq e2] at z
theorem Ht.fd (h : Ht d K mg base CA) (i : Nat) {c : Nat} {m x : PySem.Str} (e : d.mt[i]? = some (c, m) := by rfl) (e2 : d.cn[c]? = some x := by rfl) : PySem.W.findIn K (.ref (CA c)) m = some (some (.ref (He.fAd K (x, some m)))) := (h.mt i e e2).at_
theorem Ht.ff (h : Ht d K mg base CA) (i : Nat) {c : Nat} {m x : PySem.Str} (e : d.mt[i]? = some (c, m) := by rfl) (e2 : d.cn[c]? = some x := by rfl) : PySem.W.isFn K (.ref (He.fAd K (x, some m))) = true := (h.mt i e e2).fn
theorem Ht.cmx (h : Ht d K mg base CA) (i : Nat) {c : Nat} {m x : PySem.Str} (e : d.cm[i]? = some (c, m)) (e2 : d.cn[c]? = some x) : ∃ q, ClX.CMet K (CA c) (.type "type") m q (cmA K x m) := by
  have z := h.cm' _ (List.mem_of_getElem? e)
  rwa [Dat.nm_eq e2] at z
theorem Ht.cm (h : Ht d K mg base CA) (i : Nat) {c : Nat} {m x : PySem.Str} (e : d.cm[i]? = some (c, m) := by rfl) (e2 : d.cn[c]? = some x := by rfl) : ClX.CMet K (CA c) (.type "type") m (Classical.choose (h.cmx i e e2)) (cmA K x m) := Classical.choose_spec (h.cmx i e e2)
theorem Ht.fi (h : Ht d K mg base CA) (i : Nat) {c : Nat} {m x : PySem.Str} (e : d.fi[i]? = some (c, m) := by rfl) (e2 : d.cn[c]? = some x := by rfl) : PySem.W.fnIn K (He.fAd K (x, some m)) = true := by
  have z := h.fi' _ (List.mem_of_getElem? e)
  rwa [Dat.nm_eq e2] at z
theorem Ht.eq (h : Ht d K mg base CA) (i : Nat) {c : Nat} {x : PySem.Str} (e : d.eqs[i]? = some c := by rfl) (e2 : d.cn[c]? = some x := by rfl) : EqC K CA d.cs (CA c) (He.fAd K (x, some "__eq__")) := by
  have z := h.eq' _ (List.mem_of_getElem? e)
  rwa [Dat.nm_eq e2] at z
theorem Ht.kcs (h : Ht d K mg base CA) : ∀ c ∈ d.cs, KC K (CA c) := fun c hc => h.kc' c (h.csn c hc)
theorem Ht.na (h : Ht d K mg base CA) (cs : List Nat) (f : PySem.Str) (e : (cs.all fun c => d.fl.any fun p => decide (p.1 = c) && decide (p.2 = f)) = true := by decide +kernel) (e2 : (cs.all fun c => decide (c < d.cn.length)) = true := by decide +kernel) : ∀ c ∈ cs, Cls K (CA c) ∧ NoAttr K (CA c) f := fun c hc => by
  refine ⟨h.cl c (of_decide_eq_true (List.all_eq_true.mp e2 c hc)), ?_⟩
  obtain ⟨p, hp, q⟩ := List.any_eq_true.mp (List.all_eq_true.mp e c hc)
  obtain ⟨q1, q2⟩ := Bool.and_eq_true_iff.mp q
  have z := h.na' p hp
  rwa [of_decide_eq_true q1, of_decide_eq_true q2] at z
theorem Ht.tb (h : Ht d K mg base CA) (i : Nat) {a : He.Defn} {q : PySem.Str} (e : d.tf[i]? = some (a, q) := by rfl) : LamX.TabB base mg (cdA K a) (tbA K a) := h.tb' _ (List.mem_of_getElem? e)
theorem Ht.tT (h : Ht d K mg base CA) (i : Nat) {a : He.Defn} {q : PySem.Str} (e : d.tf[i]? = some (a, q) := by rfl) : (tbA K a, q ++ ".<locals>." ++ "<lambda>") ∈ CA.tb := by rw [h.tab]; exact List.mem_map.mpr ⟨_, List.mem_of_getElem? e, rfl⟩
theorem Ht.tu (h : Ht d K mg base CA) (i : Nat) {a : He.Defn} {q : PySem.Str} (e : d.tf[i]? = some (a, q) := by rfl) : ∀ p ∈ CA.tb, p.1 = tbA K a → p.2 = q ++ ".<locals>." ++ "<lambda>" := fun p hp ep => by
  rw [h.tab] at hp
  obtain ⟨b, hb, rfl⟩ := List.mem_map.mp hp
  have z : b.2 = q := h.tne b hb (a, q) (List.mem_of_getElem? e) ep
  show lamQ b.2 = _
  rw [z]; rfl
theorem Ht.fn (h : Ht d K mg base CA) (i : Nat) {q : He.DefD} (e : d.defs[i]? = some q := by rfl) : ∃ fd, FunD K q.name q.qual q.params q.body q.scope (q.dvs K) (q.kws K) (He.fAd K q.at_) fd := h.dfs q (List.mem_of_getElem? e)
theorem Ht.fc (h : Ht d K mg base CA) (i : Nat) {q : He.DefD} {m : PySem.Str} (e : d.dcms[i]? = some q := by rfl) (e2 : q.at_.2 = some m := by rfl) : ∃ fd, FunD K q.name q.qual q.params q.body q.scope [] [] (cmA K q.at_.1 m) fd := h.dcs q (List.mem_of_getElem? e) m e2
end
/-! ### how it is looked at -/
section
variable (d : Dat)
def fa : List He.Fa := d.gn.map .glo ++ d.bn.map .free ++ d.gn.map .keep ++ d.cn.map .cls ++ d.cn.map .mkr ++ d.fl.map (fun p => .noat (d.nm p.1) p.2) ++ d.mt.map (fun p => .meth (d.nm p.1) p.2)
def findB (K : PySem.W.Frag) (v : Value) (x : PySem.Str) (u : Value) : Bool := He.eqO (PySem.W.findIn K v x) (some (some u))
def cmB (K : PySem.W.Frag) (c m : PySem.Str) : Bool := match PySem.W.findCls K (.ref (He.ga K c)) (.type "type") m with
  | some (.get (.builtin b) (.ref p) .none (.ref C')) => decide (b = "classmethod.__get__") && (decide (C' = He.ga K c) && ((match PySem.W.recIn K p "classmethod" with
    | some (.ref g :: _) => decide (g = cmA K c m)
    | _ => false) && PySem.W.fnIn K (cmA K c m)))
  | _ => false
def cA (K : PySem.W.Frag) (q : He.DefD) : Addr := match q.at_.2 with
  | some m => cmA K q.at_.1 m
  | none => 0
def fnC (K : PySem.W.Frag) (q : He.DefD) : He.FnW := match K.lookup (cA K q) with
  | some ⟨_, _, .func fd, _⟩ => some (fd.name, fd.qualname, fd.params, fd.body, fd.scope, fd.globals, fd.closure, fd.builtins)
  | _ => none
def okC (K : PySem.W.Frag) (q : He.DefD) : Bool := PySem.W.keepIn K (.ref (cA K q)) && (match K.lookup (cA K q) with
  | some ⟨_, _, .func fd, _⟩ => PySem.W.codeIn K fd.code q.qual && (He.dflB K fd.defaults [] && He.kwdB K fd.kwdefaults [])
  | _ => false)
/-- of a class -/
def clsB (K : PySem.W.Frag) (x : PySem.Str) : Bool :=
  findB K (.ref (He.ga K x)) "__class__" (.builtin "object.__class__") && (He.eqO (PySem.W.specialIn K (.builtin "object.__class__") "__get__") (some (some (.builtin "getset_descriptor.__get__"))) &&
  (decide (PySem.W.takesIn K (.builtin "object.__class__") = some true) && (decide (PySem.W.mroIn K (He.ga K x) (.type "object") = some true) && (PySem.W.selfFirst K (He.ga K x) &&
  (PySem.W.readsIn K (He.ga K x) (.type "type") && He.eqO (PySem.W.specialIn K (.ref (He.ga K x)) "__getattribute__") (some (some (.builtin "type.__getattribute__"))))))))
/-- of an own == -/
def eqB (K : PySem.W.Frag) (x : PySem.Str) : Bool :=
  findB K (.ref (He.ga K x)) "__eq__" (.ref (He.fAd K (x, some "__eq__"))) && (PySem.W.isFn K (.ref (He.fAd K (x, some "__eq__"))) && (findB K (.ref (He.ga K x)) "__ne__" (.builtin "object.__ne__") &&
  (((codes d.cs).all fun t => PySem.W.notFirst K (He.ga K x) (tcV (d.ly K) t)) && ([0, 1, 2, 3, 4, 5] : List Nat).all fun t => decide (PySem.W.subIn K (.ref (He.ga K x)) (tcV (d.ly K) t) = some false))))
def ex (K : PySem.W.Frag) : Bool :=
  d.cn.all (clsB K) && ((d.cm.all fun p => cmB K (d.nm p.1) p.2) && ((d.fi.all fun p => PySem.W.fnIn K (He.fAd K (d.nm p.1, some p.2))) && ((d.eqs.all fun c => decide (c < d.cn.length) && eqB d K (d.nm c)) && ((d.cs.all fun c => decide (c < d.cn.length)) &&
  (((codes d.cs).all fun a => (codes d.cs).all fun b => decide (PySem.W.kitOne K (tcV (d.ly K) a) (tcV (d.ly K) b) = some (d.kit a b))) && ((d.tf.all fun a => d.tf.all fun b => !(decide (tbA K a.1 = tbA K b.1)) || decide (a.2 = b.2)) && d.cs.all fun a => d.cs.all fun b => !(decide (He.ga K (d.nm a) = He.ga K (d.nm b))) || decide (a = b)))))))
abbrev AlY : Type := He.AlT × (Bool × List He.FnW)
/-- all that hangs on the module, and the statics -/
def kY (g : Addr → Option Obj) : PySem.W.Frag := He.frT g (He.asD g 6 ++ [cStatics])
def tbO (g : Addr → Option Obj) (K : PySem.W.Frag) (a : He.Defn) : Bool := PySem.W.codeHdIn K (cdA K a) (tbA K a) && (match g (tbA K a) with
  | some o => He.emptyTab o
  | none => false)
def obsY (g : Addr → Option Obj) : AlY := (He.obsT (fa d) d.defs [] (kY g), (ex d (kY g) && ((d.tf.all fun a => tbO g (kY g) a.1) && d.dcms.all (okC (kY g))), d.dcms.map (fnC (kY g))))
def valY (w : World) : AlY := (He.valT d.defs [] w, (true, d.dcms.map He.DefD.val))
structure SaysY (w : World) (h : Heap) (K : PySem.W.Frag) : Prop where
  t : He.SaysT (fa d) d.defs [] w K
  more : ex d K = true
  tab : ∀ a ∈ d.tf, PySem.W.codeHdIn K (cdA K a.1) (tbA K a.1) = true ∧ K.lookup (tbA K a.1) = none ∧ h.get? (tbA K a.1) = some { cls := .none, data := .fields #[] }
  c1 : d.dcms.all (okC K) = true
  c2 : d.dcms.map (fnC K) = d.dcms.map He.DefD.val
theorem saysY_of {w : World} {h : Heap} (e : obsY d h.get? = valY d w) : SaysY d w h (kY h.get?) := by
  have e1 : He.obsT (fa d) d.defs [] (kY h.get?) = He.valT d.defs [] w := congrArg (fun z : AlY => z.1) e
  have e2 : (ex d (kY h.get?) && ((d.tf.all fun a => tbO h.get? (kY h.get?) a.1) && d.dcms.all (okC (kY h.get?)))) = true := congrArg (fun z : AlY => z.2.1) e
  have e3 : d.dcms.map (fnC (kY h.get?)) = d.dcms.map He.DefD.val := congrArg (fun z : AlY => z.2.2) e
  obtain ⟨h1, h2⟩ := He.ba e2
  obtain ⟨h3, h4⟩ := He.ba h2
  refine ⟨e1, h1, fun a ha => ?_, h4, e3⟩
  obtain ⟨u1, u2⟩ := He.ba (List.all_eq_true.mp h3 a ha)
  cases q : h.get? (tbA (kY h.get?) a.1) with
  | none => rw [q] at u2; cases u2
  | some o =>
    rw [q] at u2
    exact ⟨u1, He.frT_none q u2, by rw [He.emptyTab_eq u2]⟩
def hk : PySem.W.Hook where
  α := AlY
  obs := fun s => obsY d s.heap.get?
  val := fun w => valY d w
  says := fun w h => ∃ K : PySem.W.Frag, K.In h ∧ SaysY d w h K
  of := fun w s e => ⟨_, He.frT_in, saysY_of d e⟩
  keeps := fun _ _ _ ⟨K, hK, c⟩ k => ⟨K, PySem.W.Frag.In.keeps hK k, ⟨c.t, c.more, fun a ha => ⟨(c.tab a ha).1, (c.tab a ha).2.1, k _ _ (c.tab a ha).2.2⟩, c.c1, c.c2⟩⟩
def ob (s : PySem.W.SharedT) : AlY := obsY d (HandSHeadRun.getT s)
theorem ob_eq (s : PySem.W.SharedT) : ob d s = (hk d).obs s.abs := by
  have e : HandSHeadRun.getT s = s.abs.heap.get? := funext (HandSHeadRun.getT_eq s)
  show obsY d _ = obsY d _
  rw [e]
end
/-! ### what follows -/
section
variable {d : Dat} {w : World} {h : Heap} {K : PySem.W.Frag} {mg : PySem.Str → Option Value} {base : Heap}
theorem fa_1 {x : PySem.Str} (hx : x ∈ d.gn) : He.Fa.glo x ∈ fa d := by unfold fa; simp only [List.mem_append, List.mem_map]; exact .inl (.inl (.inl (.inl (.inl (.inl ⟨x, hx, rfl⟩)))))
theorem fa_2 {x : PySem.Str} (hx : x ∈ d.bn) : He.Fa.free x ∈ fa d := by unfold fa; simp only [List.mem_append, List.mem_map]; exact .inl (.inl (.inl (.inl (.inl (.inr ⟨x, hx, rfl⟩)))))
theorem fa_3 {x : PySem.Str} (hx : x ∈ d.gn) : He.Fa.keep x ∈ fa d := by unfold fa; simp only [List.mem_append, List.mem_map]; exact .inl (.inl (.inl (.inl (.inr ⟨x, hx, rfl⟩))))
theorem fa_4 {x : PySem.Str} (hx : x ∈ d.cn) : He.Fa.cls x ∈ fa d := by unfold fa; simp only [List.mem_append, List.mem_map]; exact .inl (.inl (.inl (.inr ⟨x, hx, rfl⟩)))
theorem fa_5 {x : PySem.Str} (hx : x ∈ d.cn) : He.Fa.mkr x ∈ fa d := by unfold fa; simp only [List.mem_append, List.mem_map]; exact .inl (.inl (.inr ⟨x, hx, rfl⟩))
theorem fa_6 {p : Nat × PySem.Str} (hx : p ∈ d.fl) : He.Fa.noat (d.nm p.1) p.2 ∈ fa d := by unfold fa; simp only [List.mem_append, List.mem_map]; exact .inl (.inr ⟨p, hx, rfl⟩)
theorem fa_7 {p : Nat × PySem.Str} (hx : p ∈ d.mt) : He.Fa.meth (d.nm p.1) p.2 ∈ fa d := by unfold fa; simp only [List.mem_append, List.mem_map]; exact .inr ⟨p, hx, rfl⟩
theorem funC {q : He.DefD} {m : PySem.Str} (hm : q.at_.2 = some m) (e : fnC K q = q.val) (c : okC K q = true) : ∃ fd, FunD K q.name q.qual q.params q.body q.scope [] [] (cmA K q.at_.1 m) fd := by
  have ea : cA K q = cmA K q.at_.1 m := by unfold cA; rw [hm]
  obtain ⟨kp, c2⟩ := He.ba c
  rw [ea] at kp c2
  unfold fnC at e
  rw [ea] at e
  cases q' : K.lookup (cmA K q.at_.1 m) with
  | none => rw [q'] at c2; cases c2
  | some o =>
    obtain ⟨oc, od, dt, osl⟩ := o
    rw [q'] at c2 e
    cases dt with
    | func fd =>
      obtain ⟨h1, h2⟩ := He.ba c2
      obtain ⟨h3, h4⟩ := He.ba h2
      have e2 : (fd.name, fd.qualname, fd.params, fd.body, fd.scope, fd.globals, fd.closure, fd.builtins) = (q.name, q.qual, q.params, FuncBody.stmts q.body, q.scope, mainGlobals, [], builtinsNs) := Option.some.inj e
      simp only [Prod.mk.injEq] at e2
      obtain ⟨x1, x2, x3, x4, x5, x6, x7, x8⟩ := e2
      refine ⟨fd, ⟨oc, od, fd.defaults, fd.kwdefaults, fd.doc, fd.pyModule, fd.annotations, fd.code, fd.closureTuple, osl, ?_, q', h1, He.dflB_ok h3, He.kwdB_ok h4⟩, kp⟩
      obtain ⟨f1, f2, f3, f4, f5, f6, f7, f8, f9, f10, f11, f12, f13, f14, f15⟩ := fd
      simp only at x1 x2 x3 x4 x5 x6 x7 x8
      subst x1 x2 x3 x4 x5 x6 x7 x8
      rfl
    | _ => cases c2
theorem cm_ok {c m : PySem.Str} (z : cmB K c m = true) : ∃ p, ClX.CMet K (He.ga K c) (.type "type") m p (cmA K c m) := by
  unfold cmB at z
  split at z
  · rename_i b p C' q
    obtain ⟨z1, z2⟩ := He.ba z
    obtain ⟨z3, z4⟩ := He.ba z2
    obtain ⟨z5, z6⟩ := He.ba z4
    have b1 := of_decide_eq_true z1
    have b2 := of_decide_eq_true z3
    subst b1 b2
    split at z5
    · rename_i g rest q2
      have b3 := of_decide_eq_true z5
      exact ⟨p, q, ⟨rest, b3 ▸ q2⟩, z6⟩
    · cases z5
  · cases z
theorem nm_mem {c : Nat} (h : c < d.cn.length) : d.nm c ∈ d.cn := by
  unfold Dat.nm
  rw [List.getElem?_eq_getElem h]
  exact List.getElem_mem h
theorem ht_of (KX : K.In base) (G : base.Ns mainGlobals mg) (c : SaysY d w h K) (TB : ∀ a ∈ d.tf, LamX.TabB base mg (cdA K a.1) (tbA K a.1)) : Ht d K mg base (d.ly K) := by
  have D := c.t.d
  have hex := c.more
  unfold ex at hex
  obtain ⟨x1, hex⟩ := He.ba hex
  obtain ⟨x2, hex⟩ := He.ba hex
  obtain ⟨x3, hex⟩ := He.ba hex
  obtain ⟨x4, hex⟩ := He.ba hex
  obtain ⟨x5, hex⟩ := He.ba hex
  obtain ⟨x6, hex⟩ := He.ba hex
  obtain ⟨x7, _⟩ := He.ba hex
  have cls : ∀ c, c < d.cn.length → KC K (d.ly K c) ∧ PySem.W.selfFirst K (d.ly K c) = true ∧ ClX.CRead K (d.ly K c) (.type "type") := fun c hc => by
    have z := List.all_eq_true.mp x1 _ (nm_mem hc)
    unfold clsB at z
    obtain ⟨y1, z⟩ := He.ba z
    obtain ⟨y2, z⟩ := He.ba z
    obtain ⟨y3, z⟩ := He.ba z
    obtain ⟨y4, z⟩ := He.ba z
    obtain ⟨y5, z⟩ := He.ba z
    obtain ⟨y6, y7⟩ := He.ba z
    exact ⟨⟨He.cls_ok (D.facts (fa_4 (nm_mem hc))), He.eqO_ok y1, He.eqO_ok y2, of_decide_eq_true y3, of_decide_eq_true y4⟩, y5, ⟨y6, He.eqO_ok y7⟩⟩
  have csn : ∀ c ∈ d.cs, c < d.cn.length := fun c hc => of_decide_eq_true (List.all_eq_true.mp x5 c hc)
  refine { glo := fun x hx => He.glo_ok KX G (D.facts (fa_1 hx)), free := fun x hx => He.free_ok KX G (D.facts (fa_2 hx)), kps := fun x hx => He.keep_ok (D.facts (fa_3 hx)), dfs := fun q hq => D.defs hq, dcs := fun q hq m hm => funC hm (List.map_inj_left.mp c.c2 q hq) (List.all_eq_true.mp c.c1 q hq), ca := fun _ => rfl, kc' := fun c hc => (cls c hc).1, sf' := fun c hc => (cls c hc).2.1, cr' := fun c hc => (cls c hc).2.2, mk' := fun c hc => He.mkr_ok (D.facts (fa_5 (nm_mem hc))), na' := fun p hp => He.noat_ok (D.facts (fa_6 hp)), mt' := fun p hp => He.meth_ok (D.facts (fa_7 hp)), cm' := fun p hp => cm_ok (List.all_eq_true.mp x2 p hp), fi' := fun p hp => List.all_eq_true.mp x3 p hp, eq' := fun c hc => ?_, csn := csn, kit := fun a ha b hb => of_decide_eq_true (List.all_eq_true.mp (List.all_eq_true.mp x6 a ha) b hb), tb' := TB, tab := rfl, tne := fun a ha b hb e => ?_ }
  · obtain ⟨hl, z⟩ := He.ba (List.all_eq_true.mp x4 c hc)
    have hl := of_decide_eq_true hl
    unfold eqB at z
    obtain ⟨y1, z⟩ := He.ba z
    obtain ⟨y2, z⟩ := He.ba z
    obtain ⟨y3, z⟩ := He.ba z
    obtain ⟨y4, y5⟩ := He.ba z
    exact ⟨He.eqO_ok y1, y2, He.eqO_ok y3, (cls c hl).1.cm, fun t ht => List.all_eq_true.mp y4 t ht, fun t ht => of_decide_eq_true (List.all_eq_true.mp y5 t ht)⟩
  · have z := List.all_eq_true.mp (List.all_eq_true.mp x7 a ha) b hb
    rcases Bool.or_eq_true_iff.mp z with q | q
    · rw [decide_eq_true e] at q; cases q
    · exact of_decide_eq_true q
/-- the classes' places are apart -/
def Dst (d : Dat) (CA : Ly) : Prop := ∀ a ∈ d.cs, ∀ b ∈ d.cs, CA a = CA b → a = b
theorem dst_of (c : SaysY d w h K) : Dst d (d.ly K) := fun a ha b hb e => by
  have hex := c.more
  unfold ex at hex
  obtain ⟨_, hex⟩ := He.ba hex
  obtain ⟨_, hex⟩ := He.ba hex
  obtain ⟨_, hex⟩ := He.ba hex
  obtain ⟨_, hex⟩ := He.ba hex
  obtain ⟨_, hex⟩ := He.ba hex
  obtain ⟨_, hex⟩ := He.ba hex
  obtain ⟨_, hex⟩ := He.ba hex
  have z := List.all_eq_true.mp (List.all_eq_true.mp hex a ha) b hb
  rcases Bool.or_eq_true_iff.mp z with q | q
  · have e2 : He.ga K (d.nm a) = He.ga K (d.nm b) := e
    rw [decide_eq_true e2] at q; cases q
  · exact of_decide_eq_true q
theorem law_fd (c : SaysY d w h K) {q : He.DefD} (hd : q ∈ d.defs) : ∃ fd, FunD K q.name q.qual q.params q.body q.scope (q.dvs K) (q.kws K) (He.fAd K q.at_) fd := c.t.d.defs hd
theorem glo_fa (KX : K.In h) (G : h.Ns mainGlobals mg) (c : SaysY d w h K) {x : PySem.Str} {f : Addr} (hx : x ∈ d.gn) (e : mg x = some (.ref f)) : f = He.ga K x := by
  have z := e.symm.trans (He.glo_ok KX G (c.t.d.facts (fa_1 hx)))
  cases z
  rfl
end
/-! ### the end -/
section
variable {d : Dat} {K : PySem.W.Frag} {H : Hp} {a : Addr} {ns : List Int}
theorem rps_ints {F : Addr → Prop} {μ : List Addr} : ∀ ns : List Int, Rps K CA F μ H (ns.map D.int) (ns.map V.int)
  | [] => trivial
  | _ :: ns => ⟨rfl, rps_ints ns⟩
theorem sp_ok {g : MF} (hT : ∀ p ∈ d.tf, H (tbA K p.1) = some (.tbl #[])) (hS : SqL K H a (ns.map V.int)) (hg : g [.rol (ns.map D.int)] [] = .ok (.val (.bl true)) []) :
    spR K (d.ly K) g [.ref a] H (fun v _ => v = .bl true) fun _ _ _ => False := by
  have tb : LamX.Tabs (d.ly K).tb H := fun p hp => by
    obtain ⟨b, hb, rfl⟩ := List.mem_map.mp hp
    exact LamX.TabS.nil (hT b hb)
  have fin : ∀ F : Addr → Prop, Sx K (d.ly K) F [] H [] → RolAt K F H a (ns.map V.int) → spR K (d.ly K) g [.ref a] H (fun v _ => v = .bl true) fun _ _ _ => False := fun F sx ra => by
    refine ⟨[.rol (ns.map D.int)], [], F, [], ⟨⟨a, _, rfl, ra, rps_ints ns⟩, trivial⟩, sx, ?_⟩
    rw [hg]
    exact fun v F' H' e s r => r
  have none_ : Sx K (d.ly K) (fun _ => False) [] H [] := ⟨rfl, fun n d a h _ => by simp at h, List.nodup_nil, fun a h => by simp at h, fun a h => h.elim, fun a o h => h.elim, tb⟩
  rcases hS with h | ⟨o, q⟩
  · have at_ : ∃ u, H a = some u ∧ NT u := by
      rcases h with h | ⟨o, h⟩
      · exact ⟨_, h, nt_lst⟩
      · exact ⟨_, h, fun ps z => by cases z⟩
    refine fin (fun b => b = a) ⟨rfl, fun n d a h _ => by simp at h, List.nodup_nil, fun a h => by simp at h, fun b hb => ?_, fun b o hb ho => ?_, tb⟩ (.inl ⟨rfl, h⟩)
    · obtain ⟨u, hu, _⟩ := at_
      exact ⟨u, hb ▸ hu⟩
    · obtain ⟨u, hu, n⟩ := at_
      rw [hb, hu] at ho
      cases ho
      exact n
  · exact fin (fun _ => False) none_ (.inr fun H' => .inr ⟨o, q⟩)
/-- all together -/
theorem lawD_of {l : PySem.W.OpenLaw} {w : World} {k n : Nat} {mg : PySem.Str → Option Value} {h : Heap} {f : Addr} {g : Ly → MF} (KX : K.In h) (c : SaysY d w h K)
    (F : ∀ b0 : Heap, Ht d K mg b0 (d.ly K) → DL.FnR l.prog w K mg b0 (L2.CX l.prog w) k f (spR K (d.ly K) (g (d.ly K)))) (hg : ∀ (CA : Ly), Dst d CA → ∀ (ns : List Int), ns.length ≤ n → g CA [.rol (ns.map D.int)] [] = .ok (.val (.bl true)) []) : DL.LawD l w K k n mg f h :=
  ⟨d.tf.map fun a => (cdA K a.1, tbA K a.1), _, fun p hp => by
    obtain ⟨b, hb, rfl⟩ := List.mem_map.mp hp
    exact ⟨(c.tab b hb).2.2, (c.tab b hb).2.1, (c.tab b hb).1⟩, fun H a ns hn hT hS => sp_ok (fun p hp => hT _ (List.mem_map.mpr ⟨p, hp, rfl⟩)) hS (hg _ (dst_of c) ns hn),
    fun b0 k0 g0 t0 => F b0 (ht_of k0 g0 c fun a ha => t0 _ (List.mem_map.mpr ⟨a, ha, rfl⟩))⟩
end
end DX

set_option Elab.async false
set_option linter.all false
set_option maxRecDepth 100000
set_option maxHeartbeats 4000000
namespace Q0
open PySem PySem.Spec L2 DL
def top (i : Nat) : Stmt := PySem.Challenge.pw_speakanew_k02_filters_tell_three_truths.main.body.getD i (.Pass ⟨0, 0, 0, 0⟩)
/-- a def: where it stands, its name, qualified name -/
def df (a : PySem.Str × Option PySem.Str) (x q : PySem.Str) (s : Stmt) : He.DefD := ⟨a, x, q, defArgs s, defBody s, defScope s, [], []⟩
def dat : DX.Dat where
  gn := (["is_integer", "higher_low", "lower_high", "higher_high", "is_empty", "joined", "common", "outside", "has_number", "Ranges", "columns_in", "both", "truth_of", "Filter", "_law_pen", "_law_draw", "_law_ranges", "_law_leaf", "_law_set_of", "_law_numbered"] : List PySem.Str) ++ (["_law_grown", "_law_built", "_law_columns", "_law_values", "_law_word", "_law_looked_at", "_law_part_one", "_law_draw_b", "_law_ranges_b", "_law_leaf_b", "_law_condition", "_law_next", "_law_built_b", "_law_deep", "_law_many", "_law_due_said", "_law_said", "_law_alike", "_law_part_two", "law"] : List PySem.Str)
  bn := ["len", "abs", "int", "bool", "list", "tuple", "any", "max", "min", "isinstance", "range", "enumerate", "sorted", "str", "set", "repr", "dict"]
  cn := ["Ranges", "Filter"]
  defs := [df ("higher_low", none) "higher_low" "higher_low" (top 3),
  df ("lower_high", none) "lower_high" "lower_high" (top 4),
  df ("higher_high", none) "higher_high" "higher_high" (top 5),
  df ("is_empty", none) "is_empty" "is_empty" (top 6),
  df ("joined", none) "joined" "joined" (top 7),
  df ("common", none) "common" "common" (top 8),
  df ("outside", none) "outside" "outside" (top 9),
  df ("has_number", none) "has_number" "has_number" (top 10),
  df ("Ranges", some "__init__") "__init__" "Ranges.__init__" (((C8.clsBody (top 11)).getD 0 (.Pass ⟨0, 0, 0, 0⟩))),
  df ("Ranges", some "__or__") "__or__" "Ranges.__or__" (((C8.clsBody (top 11)).getD 5 (.Pass ⟨0, 0, 0, 0⟩))),
  df ("Ranges", some "__and__") "__and__" "Ranges.__and__" (((C8.clsBody (top 11)).getD 6 (.Pass ⟨0, 0, 0, 0⟩))),
  df ("Ranges", some "__sub__") "__sub__" "Ranges.__sub__" (((C8.clsBody (top 11)).getD 7 (.Pass ⟨0, 0, 0, 0⟩))),
  df ("columns_in", none) "columns_in" "columns_in" (top 13),
  df ("both", none) "both" "both" (top 14),
  df ("truth_of", none) "truth_of" "truth_of" (top 15),
  df ("Filter", some "__init__") "__init__" "Filter.__init__" (((C8.clsBody (top 16)).getD 0 (.Pass ⟨0, 0, 0, 0⟩))),
  df ("Filter", some "__and__") "__and__" "Filter.__and__" (((C8.clsBody (top 16)).getD 5 (.Pass ⟨0, 0, 0, 0⟩))),
  df ("Filter", some "__or__") "__or__" "Filter.__or__" (((C8.clsBody (top 16)).getD 6 (.Pass ⟨0, 0, 0, 0⟩))),
  df ("Filter", some "__invert__") "__invert__" "Filter.__invert__" (((C8.clsBody (top 16)).getD 7 (.Pass ⟨0, 0, 0, 0⟩))),
  df ("Filter", some "__eq__") "__eq__" "Filter.__eq__" (((C8.clsBody (top 16)).getD 8 (.Pass ⟨0, 0, 0, 0⟩))),
  df ("Filter", some "__call__") "__call__" "Filter.__call__" (((C8.clsBody (top 16)).getD 9 (.Pass ⟨0, 0, 0, 0⟩))),
  df ("_law_pen", none) "_law_pen" "_law_pen" (top 18),
  df ("_law_draw", none) "_law_draw" "_law_draw" (top 19),
  df ("_law_ranges", none) "_law_ranges" "_law_ranges" (top 20),
  df ("_law_leaf", none) "_law_leaf" "_law_leaf" (top 21),
  df ("_law_set_of", none) "_law_set_of" "_law_set_of" (top 22),
  df ("_law_numbered", none) "_law_numbered" "_law_numbered" (top 23),
  df ("_law_grown", none) "_law_grown" "_law_grown" (top 24),
  df ("_law_built", none) "_law_built" "_law_built" (top 25),
  df ("_law_columns", none) "_law_columns" "_law_columns" (top 26),
  df ("_law_values", none) "_law_values" "_law_values" (top 27),
  df ("_law_word", none) "_law_word" "_law_word" (top 28),
  df ("_law_looked_at", none) "_law_looked_at" "_law_looked_at" (top 29),
  df ("_law_part_one", none) "_law_part_one" "_law_part_one" (top 30),
  df ("_law_draw_b", none) "_law_draw_b" "_law_draw_b" (top 31),
  df ("_law_ranges_b", none) "_law_ranges_b" "_law_ranges_b" (top 32),
  df ("_law_leaf_b", none) "_law_leaf_b" "_law_leaf_b" (top 33),
  df ("_law_condition", none) "_law_condition" "_law_condition" (top 34),
  df ("_law_next", none) "_law_next" "_law_next" (top 35),
  df ("_law_built_b", none) "_law_built_b" "_law_built_b" (top 36),
  df ("_law_deep", none) "_law_deep" "_law_deep" (top 37),
  df ("_law_many", none) "_law_many" "_law_many" (top 38),
  df ("_law_due_said", none) "_law_due_said" "_law_due_said" (top 39),
  df ("_law_said", none) "_law_said" "_law_said" (top 40),
  df ("_law_alike", none) "_law_alike" "_law_alike" (top 41),
  df ("_law_part_two", none) "_law_part_two" "_law_part_two" (top 42),
  df ("law", none) "law" "law" (top 43)]
  dcms := [df ("Ranges", some "of") "of" "Ranges.of" (((C8.clsBody (top 11)).getD 1 (.Pass ⟨0, 0, 0, 0⟩))),
  df ("Ranges", some "between") "between" "Ranges.between" (((C8.clsBody (top 11)).getD 2 (.Pass ⟨0, 0, 0, 0⟩))),
  df ("Ranges", some "full") "full" "Ranges.full" (((C8.clsBody (top 11)).getD 3 (.Pass ⟨0, 0, 0, 0⟩))),
  df ("Ranges", some "empty") "empty" "Ranges.empty" (((C8.clsBody (top 11)).getD 4 (.Pass ⟨0, 0, 0, 0⟩))),
  df ("Filter", some "within") "within" "Filter.within" (((C8.clsBody (top 16)).getD 1 (.Pass ⟨0, 0, 0, 0⟩))),
  df ("Filter", some "missing") "missing" "Filter.missing" (((C8.clsBody (top 16)).getD 2 (.Pass ⟨0, 0, 0, 0⟩))),
  df ("Filter", some "always") "always" "Filter.always" (((C8.clsBody (top 16)).getD 3 (.Pass ⟨0, 0, 0, 0⟩))),
  df ("Filter", some "never") "never" "Filter.never" (((C8.clsBody (top 16)).getD 4 (.Pass ⟨0, 0, 0, 0⟩)))]
  fl := [(0, "parts"), (1, "tree"), (1, "columns")]
  mt := [(0, "__or__"), (0, "__and__"), (0, "__sub__"), (1, "__and__"), (1, "__or__"), (1, "__invert__"), (1, "__eq__"), (1, "__call__")]
  cm := [(0, "of"), (0, "between"), (0, "full"), (0, "empty"), (1, "within"), (1, "missing"), (1, "always"), (1, "never")]
  eqs := [1]
  fi := [(1, "__call__")]
  tf := [(("joined", none), "joined")]
  cs := [0, 1]
  kit := fun a b => decide (a = b) || (decide (a = 1) && decide (b = 2))
section
variable {P : Program} {w : World} {K : PySem.W.Frag} {mg : PySem.Str → Option Value} {base : Heap} {CA : Ly}

abbrev s_higher_low : Stmt := top 3
def m_higher_low (CA : Ly) : MS :=
  (mSeq (mIfS (mTest (mUn isN (mVar 0))) (mRet (mVar 1)) mSkip)
  (mRet (mIf (mTest (mUn isN (mVar 1))) (mVar 0) (mCB (un1 maxL) (aCons (mLst (aCons (mVar 0) (aCons (mVar 1) aNil))) aNil)))))
def g_higher_low (CA : Ly) : MF := body 2 (m_higher_low CA)
def r_higher_low (CA : Ly) : MF := ar 2 (g_higher_low CA)
theorem sc_higher_low : FnScope ["one", "other"] ["one", "other"] (defScope s_higher_low) := C8.fnScope_by (by decide +kernel)
theorem F_higher_low (h : DX.Ht dat K mg base CA) : DL.FnR P w K mg base (L2.CX P w) 1 (He.fAd K ("higher_low", none)) (spR K CA (r_higher_low CA)) := by
  obtain ⟨fd, FD⟩ := h.fn 0
  exact fn_all (sf_of FD sc_higher_low fun cdv A outer s H E hr fr =>
  (sb_cons (ss_if (st_isN (se_var (i := 0))) (sb_one (ss_ret (se_var (i := 1)))) sb_nil)
  (sb_one (ss_ret (se_if (st_isN (se_var (i := 1))) (se_var (i := 0)) (se_callB (dc_maxL fr.calm) (by rfl) (h.b 7) (by rfl) (sa_cons (se_lst (sa_cons (se_var (i := 0)) (sa_cons (se_var (i := 1)) sa_nil))) sa_nil))))))) (FD.bindsN fun _ _ _ _ _ _ us hl => match us, hl with | [_, _], _ => rfl)
abbrev s_lower_high : Stmt := top 4
def m_lower_high (CA : Ly) : MS :=
  (mSeq (mIfS (mTest (mUn isN (mVar 0))) (mRet (mVar 1)) mSkip)
  (mRet (mIf (mTest (mUn isN (mVar 1))) (mVar 0) (mCB (un1 minL) (aCons (mLst (aCons (mVar 0) (aCons (mVar 1) aNil))) aNil)))))
def g_lower_high (CA : Ly) : MF := body 2 (m_lower_high CA)
def r_lower_high (CA : Ly) : MF := ar 2 (g_lower_high CA)
theorem sc_lower_high : FnScope ["one", "other"] ["one", "other"] (defScope s_lower_high) := C8.fnScope_by (by decide +kernel)
theorem F_lower_high (h : DX.Ht dat K mg base CA) : DL.FnR P w K mg base (L2.CX P w) 1 (He.fAd K ("lower_high", none)) (spR K CA (r_lower_high CA)) := by
  obtain ⟨fd, FD⟩ := h.fn 1
  exact fn_all (sf_of FD sc_lower_high fun cdv A outer s H E hr fr =>
  (sb_cons (ss_if (st_isN (se_var (i := 0))) (sb_one (ss_ret (se_var (i := 1)))) sb_nil)
  (sb_one (ss_ret (se_if (st_isN (se_var (i := 1))) (se_var (i := 0)) (se_callB (dc_minL fr.calm) (by rfl) (h.b 8) (by rfl) (sa_cons (se_lst (sa_cons (se_var (i := 0)) (sa_cons (se_var (i := 1)) sa_nil))) sa_nil))))))) (FD.bindsN fun _ _ _ _ _ _ us hl => match us, hl with | [_, _], _ => rfl)
abbrev s_higher_high : Stmt := top 5
def m_higher_high (CA : Ly) : MS :=
  (mRet (mIf (mOr (mTest (mUn isN (mVar 0))) (mTest (mUn isN (mVar 1)))) (mC .non) (mCB (un1 maxL) (aCons (mLst (aCons (mVar 0) (aCons (mVar 1) aNil))) aNil))))
def g_higher_high (CA : Ly) : MF := body 2 (m_higher_high CA)
def r_higher_high (CA : Ly) : MF := ar 2 (g_higher_high CA)
theorem sc_higher_high : FnScope ["one", "other"] ["one", "other"] (defScope s_higher_high) := C8.fnScope_by (by decide +kernel)
theorem F_higher_high (h : DX.Ht dat K mg base CA) : DL.FnR P w K mg base (L2.CX P w) 1 (He.fAd K ("higher_high", none)) (spR K CA (r_higher_high CA)) := by
  obtain ⟨fd, FD⟩ := h.fn 2
  exact fn_all (sf_of FD sc_higher_high fun cdv A outer s H E hr fr =>
  (sb_one (ss_ret (se_if (SW.st' (sw_or (st_isN (se_var (i := 0))) (sw_or1 (st_isN (se_var (i := 1)))))) se_non (se_callB (dc_maxL fr.calm) (by rfl) (h.b 7) (by rfl) (sa_cons (se_lst (sa_cons (se_var (i := 0)) (sa_cons (se_var (i := 1)) sa_nil))) sa_nil)))))) (FD.bindsN fun _ _ _ _ _ _ us hl => match us, hl with | [_, _], _ => rfl)
abbrev s_is_empty : Stmt := top 6
def m_is_empty (CA : Ly) : MS :=
  (mRet (mAndV (mUn notN (mVar 0)) (mAndV (mUn notN (mVar 1)) (mBin gtI (mVar 0) (mVar 1)))))
def g_is_empty (CA : Ly) : MF := body 2 (m_is_empty CA)
def r_is_empty (CA : Ly) : MF := ar 2 (g_is_empty CA)
theorem sc_is_empty : FnScope ["low", "high"] ["low", "high"] (defScope s_is_empty) := C8.fnScope_by (by decide +kernel)
theorem F_is_empty (h : DX.Ht dat K mg base CA) : DL.FnR P w K mg base (L2.CX P w) 1 (He.fAd K ("is_empty", none)) (spR K CA (r_is_empty CA)) := by
  obtain ⟨fd, FD⟩ := h.fn 3
  exact fn_all (sf_of FD sc_is_empty fun cdv A outer s H E hr fr =>
  (sb_one (ss_ret (se_and (se_notN (se_var (i := 0))) (se_and (se_notN (se_var (i := 1))) (se_one (se_cmp dop_gtI (se_var (i := 0)) (se_var (i := 1)) (by rfl)))))))) (FD.bindsN fun _ _ _ _ _ _ us hl => match us, hl with | [_, _], _ => rfl)
abbrev s_joined : Stmt := top 7
def m_joined (CA : Ly) : MS :=
  (mSeq (mBox (mLst aNil) 1)
  (mSeq (mFor (iSeq (mSortLow (mVar 0))) (gTup [(gN 2), (gN 3)]) (mIfS (mAnd (mTest (mBin neD (mVar 1) (mLst aNil))) (mOr (mTest (mUn isN (mVar 2))) (mOr (mTest (mUn isN (mBin ixD (mBin ixD (mVar 1) (mUn negI (mC (.int 1)))) (mC (.int 1))))) (mTest (mBin leI (mVar 2) (mBin addI (mBin ixD (mBin ixD (mVar 1) (mUn negI (mC (.int 1)))) (mC (.int 1))) (mC (.int 1)))))))) (mSetIx (mTup (aCons (mBin ixD (mBin ixD (mVar 1) (mUn negI (mC (.int 1)))) (mC (.int 0))) (aCons (mF (r_higher_high CA) (aCons (mBin ixD (mBin ixD (mVar 1) (mUn negI (mC (.int 1)))) (mC (.int 1))) (aCons (mVar 3) aNil))) aNil))) (mVar 1) (mUn negI (mC (.int 1)))) (mExpr (mBm appD (mVar 1) (aCons (mTup (aCons (mVar 2) (aCons (mVar 3) aNil))) aNil)))))
  (mRet (mCB (un1 tupD) (aCons (mVar 1) aNil)))))
def g_joined (CA : Ly) : MF := body 4 (m_joined CA)
def r_joined (CA : Ly) : MF := ar 1 (g_joined CA)
theorem sc_joined : FnScope ["stretches", "found", "low", "high"] ["stretches"] (defScope s_joined) := C8.fnScope_by (by decide +kernel)
theorem F_joined (h : DX.Ht dat K mg base CA) : DL.FnR P w K mg base (L2.CX P w) 2 (He.fAd K ("joined", none)) (spR K CA (r_joined CA)) := by
  obtain ⟨fd, FD⟩ := h.fn 4
  refine fn_all (sf_lam FD sc_joined fun cdv hcd A outer s H E hr fr =>
  (sb_cons (ss_box (i := 1) (se_lst sa_nil) sc_joined.nd)
  (sb_cons (ss_for fr (si_seq (se_sortLow (se_var (i := 0)) hr (by rfl) (h.b 12) (h.tb 0) hcd (h.tT 0) (h.tu 0) (by rfl) (by rfl) (by rfl) (fun _ _ _ _ => by rfl))) (sg_tup (gs := [(gN 2), (gN 3)]) fr.calm (sgs_cons (sg_name (i := 2) sc_joined.nd) (sgs_cons (sg_name (i := 3) sc_joined.nd) sgs_nil))) (sb_one (ss_if (SW.st' (sw_and (st_cmp (dop_neD hr.u64) (se_var (i := 1)) (se_lst sa_nil) (by rfl)) (sw_and1 (SW.st' (sw_or (st_isN (se_var (i := 2))) (sw_or (st_isN (se_ix (se_ix (se_var (i := 1)) (se_un dun_neg se_int)) se_int)) (sw_or1 (st_cmp dop_leI (se_var (i := 2)) (se_bin dop_addI (se_ix (se_ix (se_var (i := 1)) (se_un dun_neg se_int)) se_int) se_int) (by rfl))))))))) (sb_one (ss_setIx (se_tup (sa_cons (se_ix (se_ix (se_var (i := 1)) (se_un dun_neg se_int)) se_int) (sa_cons (se_callG (df_fn fr.tk (F_higher_high (P := P) (w := w) (base := base) h) (hr.mono (k := 1) (by decide)) (h.kp 3)) (by rfl) (h.g 3) (sa_cons (se_ix (se_ix (se_var (i := 1)) (se_un dun_neg se_int)) se_int) (sa_cons (se_var (i := 3)) sa_nil))) sa_nil))) (se_var (i := 1)) (se_un dun_neg se_int))) (sb_one (ss_expr (se_bm F.plainAttrs_list F.slot_list_append (by rfl) dml_append (se_var (i := 1)) (sa_cons (se_tup (sa_cons (se_var (i := 2)) (sa_cons (se_var (i := 3)) sa_nil))) sa_nil)))))))
  (sb_one (ss_ret (se_callTy dc_tuple (by rfl) (h.b 5) (by rfl) (sa_cons (se_var (i := 1)) sa_nil))))))) (FD.bindsN fun _ _ _ _ _ _ us hl => match us, hl with | [_], _ => rfl)
abbrev s_common : Stmt := top 8
def m_common (CA : Ly) : MS :=
  (mSeq (mBox (mLst aNil) 2)
  (mSeq (mFor (iSeq (mVar 0)) (gTup [(gN 3), (gN 4)]) (mFor (iSeq (mVar 1)) (gTup [(gN 5), (gN 6)]) (mSeq (mAsg (mTup (aCons (mF (r_higher_low CA) (aCons (mVar 3) (aCons (mVar 5) aNil))) (aCons (mF (r_lower_high CA) (aCons (mVar 4) (aCons (mVar 6) aNil))) aNil))) (gN 7))
    (mIfS (mNot (mTest (mF (r_is_empty CA) (aCons (mBin ixD (mVar 7) (mC (.int 0))) (aCons (mBin ixD (mVar 7) (mC (.int 1))) aNil))))) (mExpr (mBm appD (mVar 2) (aCons (mVar 7) aNil))) mSkip))))
  (mRet (mF (r_joined CA) (aCons (mVar 2) aNil)))))
def g_common (CA : Ly) : MF := body 8 (m_common CA)
def r_common (CA : Ly) : MF := ar 2 (g_common CA)
theorem sc_common : FnScope ["parts", "others", "found", "low", "high", "first", "last", "ends"] ["parts", "others"] (defScope s_common) := C8.fnScope_by (by decide +kernel)
theorem F_common (h : DX.Ht dat K mg base CA) : DL.FnR P w K mg base (L2.CX P w) 3 (He.fAd K ("common", none)) (spR K CA (r_common CA)) := by
  obtain ⟨fd, FD⟩ := h.fn 5
  exact fn_all (sf_of FD sc_common fun cdv A outer s H E hr fr =>
  (sb_cons (ss_box (i := 2) (se_lst sa_nil) sc_common.nd)
  (sb_cons (ss_for fr (si_seq (se_var (i := 0))) (sg_tup (gs := [(gN 3), (gN 4)]) fr.calm (sgs_cons (sg_name (i := 3) sc_common.nd) (sgs_cons (sg_name (i := 4) sc_common.nd) sgs_nil))) (sb_one (ss_for fr (si_seq (se_var (i := 1))) (sg_tup (gs := [(gN 5), (gN 6)]) fr.calm (sgs_cons (sg_name (i := 5) sc_common.nd) (sgs_cons (sg_name (i := 6) sc_common.nd) sgs_nil))) (sb_cons (ss_set (i := 7) (se_tup (sa_cons (se_callG (df_fn fr.tk (F_higher_low (P := P) (w := w) (base := base) h) (hr.mono (k := 1) (by decide)) (h.kp 1)) (by rfl) (h.g 1) (sa_cons (se_var (i := 3)) (sa_cons (se_var (i := 5)) sa_nil))) (sa_cons (se_callG (df_fn fr.tk (F_lower_high (P := P) (w := w) (base := base) h) (hr.mono (k := 1) (by decide)) (h.kp 2)) (by rfl) (h.g 2) (sa_cons (se_var (i := 4)) (sa_cons (se_var (i := 6)) sa_nil))) sa_nil))) sc_common.nd)
    (sb_one (ss_if (st_not (st_val (se_callG (df_fn fr.tk (F_is_empty (P := P) (w := w) (base := base) h) (hr.mono (k := 1) (by decide)) (h.kp 4)) (by rfl) (h.g 4) (sa_cons (se_ix (se_var (i := 7)) se_int) (sa_cons (se_ix (se_var (i := 7)) se_int) sa_nil))))) (sb_one (ss_expr (se_bm F.plainAttrs_list F.slot_list_append (by rfl) dml_append (se_var (i := 2)) (sa_cons (se_var (i := 7)) sa_nil)))) sb_nil))))))
  (sb_one (ss_ret (se_callG (df_fn fr.tk (F_joined (P := P) (w := w) (base := base) h) (hr.mono (k := 2) (by decide)) (h.kp 5)) (by rfl) (h.g 5) (sa_cons (se_var (i := 2)) sa_nil))))))) (FD.bindsN fun _ _ _ _ _ _ us hl => match us, hl with | [_, _], _ => rfl)
abbrev s_outside : Stmt := top 9
def m_outside (CA : Ly) : MS :=
  (mSeq (mBox (mLst aNil) 1)
  (mSeq (mAsg (mC .non) (gN 2))
  (mSeq (mFor (iSeq (mVar 0)) (gTup [(gN 3), (gN 4)]) (mSeq (mIfS (mTest (mUn notN (mVar 3))) (mExpr (mBm appD (mVar 1) (aCons (mTup (aCons (mVar 2) (aCons (mBin subI (mVar 3) (mC (.int 1))) aNil))) aNil))) mSkip)
   (mSeq (mIfS (mTest (mUn isN (mVar 4))) (mRet (mCB (un1 tupD) (aCons (mVar 1) aNil))) mSkip)
   (mAsg (mBin addI (mVar 4) (mC (.int 1))) (gN 2)))))
  (mRet (mCB (un1 tupD) (aCons (mBin addL (mVar 1) (mLst (aCons (mTup (aCons (mVar 2) (aCons (mC .non) aNil))) aNil))) aNil))))))
def g_outside (CA : Ly) : MF := body 5 (m_outside CA)
def r_outside (CA : Ly) : MF := ar 1 (g_outside CA)
theorem sc_outside : FnScope ["parts", "found", "low", "first", "last"] ["parts"] (defScope s_outside) := C8.fnScope_by (by decide +kernel)
theorem F_outside (h : DX.Ht dat K mg base CA) : DL.FnR P w K mg base (L2.CX P w) 1 (He.fAd K ("outside", none)) (spR K CA (r_outside CA)) := by
  obtain ⟨fd, FD⟩ := h.fn 6
  exact fn_all (sf_of FD sc_outside fun cdv A outer s H E hr fr =>
  (sb_cons (ss_box (i := 1) (se_lst sa_nil) sc_outside.nd)
  (sb_cons (ss_set (i := 2) se_non sc_outside.nd)
  (sb_cons (ss_for fr (si_seq (se_var (i := 0))) (sg_tup (gs := [(gN 3), (gN 4)]) fr.calm (sgs_cons (sg_name (i := 3) sc_outside.nd) (sgs_cons (sg_name (i := 4) sc_outside.nd) sgs_nil))) (sb_cons (ss_if (st_notN (se_var (i := 3))) (sb_one (ss_expr (se_bm F.plainAttrs_list F.slot_list_append (by rfl) dml_append (se_var (i := 1)) (sa_cons (se_tup (sa_cons (se_var (i := 2)) (sa_cons (se_bin dop_subI (se_var (i := 3)) se_int) sa_nil))) sa_nil)))) sb_nil)
   (sb_cons (ss_if (st_isN (se_var (i := 4))) (sb_one (ss_ret (se_callTy dc_tuple (by rfl) (h.b 5) (by rfl) (sa_cons (se_var (i := 1)) sa_nil)))) sb_nil)
   (sb_one (ss_set (i := 2) (se_bin dop_addI (se_var (i := 4)) se_int) sc_outside.nd)))))
  (sb_one (ss_ret (se_callTy dc_tuple (by rfl) (h.b 5) (by rfl) (sa_cons (se_bin dop_addL (se_var (i := 1)) (se_lst (sa_cons (se_tup (sa_cons (se_var (i := 2)) (sa_cons se_non sa_nil))) sa_nil))) sa_nil)))))))) (FD.bindsN fun _ _ _ _ _ _ us hl => match us, hl with | [_], _ => rfl)
abbrev s_has_number : Stmt := top 10
def m_has_number (CA : Ly) : MS :=
  (mRet (mCB (un1 anyD) (aCons (mComp (iSeq (mVar 0)) (([("low", 2), ("high", 3)] : List (PySem.Str × Nat)).map (·.2)) (gTup [(gN 2), (gN 3)]) mYes (mAndV (mOrV (mUn isN (mVar 2)) (mBin leI (mVar 2) (mVar 1))) (mOrV (mUn isN (mVar 3)) (mBin leI (mVar 1) (mVar 3))))) aNil)))
def g_has_number (CA : Ly) : MF := body 4 (m_has_number CA)
def r_has_number (CA : Ly) : MF := ar 2 (g_has_number CA)
theorem sc_has_number : FnScope ["parts", "number", "low", "high"] ["parts", "number"] (defScope s_has_number) := C8.fnScope_by (by decide +kernel)
theorem F_has_number (h : DX.Ht dat K mg base CA) : DL.FnR P w K mg base (L2.CX P w) 1 (He.fAd K ("has_number", none)) (spR K CA (r_has_number CA)) := by
  obtain ⟨fd, FD⟩ := h.fn 7
  exact fn_all (sf_of FD sc_has_number fun cdv A outer s H E hr fr =>
  (sb_one (ss_ret (se_callB (dc_any fr.calm) (by rfl) (h.b 6) (by rfl) (sa_cons (se_comp (own := [("low", 2), ("high", 3)]) fr.calm sc_has_number.nd (si_seq (se_var (i := 0))) (blkOk_by (by kernel_rfl)) (by decide) (fun s H C cl fp => (sg_tup (gs := [(gN 2), (gN 3)]) rfl (sgs_cons (sg_name (i := 2) sc_has_number.nd) (sgs_cons (sg_name (i := 3) sc_has_number.nd) sgs_nil)))) (fun s H C cl fp => pts_no) (fun s H C cl fp => (se_and (se_or (se_isN (se_var (i := 2))) (se_one (se_cmp dop_leI (se_var (i := 2)) (se_var (i := 1)) (by rfl)))) (se_one (se_or (se_isN (se_var (i := 3))) (se_one (se_cmp dop_leI (se_var (i := 1)) (se_var (i := 3)) (by rfl)))))))) sa_nil))))) (FD.bindsN fun _ _ _ _ _ _ us hl => match us, hl with | [_, _], _ => rfl)
abbrev s_Ranges___init__ : Stmt := ((C8.clsBody (top 11)).getD 0 (.Pass ⟨0, 0, 0, 0⟩))
def m_Ranges___init__ (CA : Ly) : MS :=
  (mSetF "parts" [0] (mF (r_joined CA) (aCons (mVar 1) aNil)) (mVar 0))
def g_Ranges___init__ (CA : Ly) : MF := body 2 (m_Ranges___init__ CA)
def r_Ranges___init__ (CA : Ly) : MF := ar 2 (g_Ranges___init__ CA)
theorem sc_Ranges___init__ : FnScope ["self", "stretches"] ["self", "stretches"] (defScope s_Ranges___init__) := C8.fnScope_by (by decide +kernel)
theorem F_Ranges___init__ (h : DX.Ht dat K mg base CA) : DL.FnR P w K mg base (L2.CX P w) 3 (He.fAd K ("Ranges", some "__init__")) (spR K CA (r_Ranges___init__ CA)) := by
  obtain ⟨fd, FD⟩ := h.fn 8
  exact fn_all (sf_of FD sc_Ranges___init__ fun cdv A outer s H E hr fr =>
  (sb_one (ss_setF (se_callG (df_fn fr.tk (F_joined (P := P) (w := w) (base := base) h) (hr.mono (k := 2) (by decide)) (h.kp 5)) (by rfl) (h.g 5) (sa_cons (se_var (i := 1)) sa_nil)) (se_var (i := 0)) (h.na [0] "parts")))) (FD.bindsN fun _ _ _ _ _ _ us hl => match us, hl with | [_, _], _ => rfl)
abbrev s_Ranges_of : Stmt := ((C8.clsBody (top 11)).getD 1 (.Pass ⟨0, 0, 0, 0⟩))
def m_Ranges_of (CA : Ly) : MS :=
  (mRet (mFL 0 (CA 0) (mkD 0 (r_Ranges___init__ CA)) (aCons (mComp (iSeq (mVar 1)) (([("number", 2)] : List (PySem.Str × Nat)).map (·.2)) (gN 2) mYes (mTup (aCons (mVar 2) (aCons (mVar 2) aNil)))) aNil)))
def g_Ranges_of (CA : Ly) : MF := body 3 (m_Ranges_of CA)
def r_Ranges_of (CA : Ly) : MF := starA 1 (g_Ranges_of CA)
theorem sc_Ranges_of : FnScope ["cls", "numbers", "number"] ["cls", "numbers"] (defScope s_Ranges_of) := C8.fnScope_by (by decide +kernel)
theorem F_Ranges_of (h : DX.Ht dat K mg base CA) : DL.FnR P w K mg base (L2.CX P w) 5 (DX.cmA K "Ranges" "of") (spR K CA (r_Ranges_of CA)) := by
  obtain ⟨fd, FD⟩ := h.fc 0
  exact sf_star (ps := ["cls"]) FD sc_Ranges_of (fun kV doc pm an cdv ct => StX.bind_star1 (B := fun us => bindArgs _ ⟨us, []⟩) (fun _ => rfl) fun _ _ _ => rfl) (fun cdv A outer s H E hr fr =>
  (sb_one (ss_ret (se_callL (i := 0) (df_mk (n := 0) fr.tk (h.mkC 0) (F_Ranges___init__ (P := P) (w := w) (base := base) h) (hr.mono (k := 4) (by decide))) (by rfl) (.inl (by rfl)) (sa_cons (se_comp (own := [("number", 2)]) fr.calm sc_Ranges_of.nd (si_seq (se_var (i := 1))) (blkOk_by (by kernel_rfl)) (by decide) (fun s H C cl fp => (sg_name (i := 2) sc_Ranges_of.nd)) (fun s H C cl fp => pts_no) (fun s H C cl fp => (se_tup (sa_cons (se_var (i := 2)) (sa_cons (se_var (i := 2)) sa_nil))))) sa_nil)))))
abbrev s_Ranges_between : Stmt := ((C8.clsBody (top 11)).getD 2 (.Pass ⟨0, 0, 0, 0⟩))
def m_Ranges_between (CA : Ly) : MS :=
  (mRet (mFL 0 (CA 0) (mkD 0 (r_Ranges___init__ CA)) (aCons (mIf (mTest (mF (r_is_empty CA) (aCons (mVar 1) (aCons (mVar 2) aNil)))) (mLst aNil) (mLst (aCons (mTup (aCons (mVar 1) (aCons (mVar 2) aNil))) aNil))) aNil)))
def g_Ranges_between (CA : Ly) : MF := body 3 (m_Ranges_between CA)
def r_Ranges_between (CA : Ly) : MF := ar 3 (g_Ranges_between CA)
theorem sc_Ranges_between : FnScope ["cls", "low", "high"] ["cls", "low", "high"] (defScope s_Ranges_between) := C8.fnScope_by (by decide +kernel)
theorem F_Ranges_between (h : DX.Ht dat K mg base CA) : DL.FnR P w K mg base (L2.CX P w) 5 (DX.cmA K "Ranges" "between") (spR K CA (r_Ranges_between CA)) := by
  obtain ⟨fd, FD⟩ := h.fc 1
  exact fn_all (sf_of FD sc_Ranges_between fun cdv A outer s H E hr fr =>
  (sb_one (ss_ret (se_callL (i := 0) (df_mk (n := 0) fr.tk (h.mkC 0) (F_Ranges___init__ (P := P) (w := w) (base := base) h) (hr.mono (k := 4) (by decide))) (by rfl) (.inl (by rfl)) (sa_cons (se_if (st_val (se_callG (df_fn fr.tk (F_is_empty (P := P) (w := w) (base := base) h) (hr.mono (k := 1) (by decide)) (h.kp 4)) (by rfl) (h.g 4) (sa_cons (se_var (i := 1)) (sa_cons (se_var (i := 2)) sa_nil)))) (se_lst sa_nil) (se_lst (sa_cons (se_tup (sa_cons (se_var (i := 1)) (sa_cons (se_var (i := 2)) sa_nil))) sa_nil))) sa_nil))))) (FD.bindsN fun _ _ _ _ _ _ us hl => match us, hl with | [_, _, _], _ => rfl)
abbrev s_Ranges_full : Stmt := ((C8.clsBody (top 11)).getD 3 (.Pass ⟨0, 0, 0, 0⟩))
def m_Ranges_full (CA : Ly) : MS :=
  (mRet (mFL 0 (CA 0) (mkD 0 (r_Ranges___init__ CA)) (aCons (mLst (aCons (mTup (aCons (mC .non) (aCons (mC .non) aNil))) aNil)) aNil)))
def g_Ranges_full (CA : Ly) : MF := body 1 (m_Ranges_full CA)
def r_Ranges_full (CA : Ly) : MF := ar 1 (g_Ranges_full CA)
theorem sc_Ranges_full : FnScope ["cls"] ["cls"] (defScope s_Ranges_full) := C8.fnScope_by (by decide +kernel)
theorem F_Ranges_full (h : DX.Ht dat K mg base CA) : DL.FnR P w K mg base (L2.CX P w) 5 (DX.cmA K "Ranges" "full") (spR K CA (r_Ranges_full CA)) := by
  obtain ⟨fd, FD⟩ := h.fc 2
  exact fn_all (sf_of FD sc_Ranges_full fun cdv A outer s H E hr fr =>
  (sb_one (ss_ret (se_callL (i := 0) (df_mk (n := 0) fr.tk (h.mkC 0) (F_Ranges___init__ (P := P) (w := w) (base := base) h) (hr.mono (k := 4) (by decide))) (by rfl) (.inl (by rfl)) (sa_cons (se_lst (sa_cons (se_tup (sa_cons se_non (sa_cons se_non sa_nil))) sa_nil)) sa_nil))))) (FD.bindsN fun _ _ _ _ _ _ us hl => match us, hl with | [_], _ => rfl)
abbrev s_Ranges_empty : Stmt := ((C8.clsBody (top 11)).getD 4 (.Pass ⟨0, 0, 0, 0⟩))
def m_Ranges_empty (CA : Ly) : MS :=
  (mRet (mFL 0 (CA 0) (mkD 0 (r_Ranges___init__ CA)) (aCons (mLst aNil) aNil)))
def g_Ranges_empty (CA : Ly) : MF := body 1 (m_Ranges_empty CA)
def r_Ranges_empty (CA : Ly) : MF := ar 1 (g_Ranges_empty CA)
theorem sc_Ranges_empty : FnScope ["cls"] ["cls"] (defScope s_Ranges_empty) := C8.fnScope_by (by decide +kernel)
theorem F_Ranges_empty (h : DX.Ht dat K mg base CA) : DL.FnR P w K mg base (L2.CX P w) 5 (DX.cmA K "Ranges" "empty") (spR K CA (r_Ranges_empty CA)) := by
  obtain ⟨fd, FD⟩ := h.fc 3
  exact fn_all (sf_of FD sc_Ranges_empty fun cdv A outer s H E hr fr =>
  (sb_one (ss_ret (se_callL (i := 0) (df_mk (n := 0) fr.tk (h.mkC 0) (F_Ranges___init__ (P := P) (w := w) (base := base) h) (hr.mono (k := 4) (by decide))) (by rfl) (.inl (by rfl)) (sa_cons (se_lst sa_nil) sa_nil))))) (FD.bindsN fun _ _ _ _ _ _ us hl => match us, hl with | [_], _ => rfl)
abbrev s_Ranges___or__ : Stmt := ((C8.clsBody (top 11)).getD 5 (.Pass ⟨0, 0, 0, 0⟩))
def m_Ranges___or__ (CA : Ly) : MS :=
  (mRet (mF (mkD 0 (r_Ranges___init__ CA)) (aCons (mBin addT (mUn (fldD "parts" [0]) (mVar 0)) (mUn (fldD "parts" [0]) (mVar 1))) aNil)))
def g_Ranges___or__ (CA : Ly) : MF := body 2 (m_Ranges___or__ CA)
def r_Ranges___or__ (CA : Ly) : MF := ar 2 (g_Ranges___or__ CA)
theorem sc_Ranges___or__ : FnScope ["self", "other"] ["self", "other"] (defScope s_Ranges___or__) := C8.fnScope_by (by decide +kernel)
theorem F_Ranges___or__ (h : DX.Ht dat K mg base CA) : DL.FnR P w K mg base (L2.CX P w) 5 (He.fAd K ("Ranges", some "__or__")) (spR K CA (r_Ranges___or__ CA)) := by
  obtain ⟨fd, FD⟩ := h.fn 9
  exact fn_all (sf_of FD sc_Ranges___or__ fun cdv A outer s H E hr fr =>
  (sb_one (ss_ret (se_callG (df_mk (n := 0) fr.tk (h.mkC 0) (F_Ranges___init__ (P := P) (w := w) (base := base) h) (hr.mono (k := 4) (by decide))) (by rfl) (h.gC 0 9) (sa_cons (se_bin dop_addT (se_fld (se_var (i := 0)) (h.na [0] "parts")) (se_fld (se_var (i := 1)) (h.na [0] "parts"))) sa_nil))))) (FD.bindsN fun _ _ _ _ _ _ us hl => match us, hl with | [_, _], _ => rfl)
abbrev s_Ranges___and__ : Stmt := ((C8.clsBody (top 11)).getD 6 (.Pass ⟨0, 0, 0, 0⟩))
def m_Ranges___and__ (CA : Ly) : MS :=
  (mRet (mF (mkD 0 (r_Ranges___init__ CA)) (aCons (mF (r_common CA) (aCons (mUn (fldD "parts" [0]) (mVar 0)) (aCons (mUn (fldD "parts" [0]) (mVar 1)) aNil))) aNil)))
def g_Ranges___and__ (CA : Ly) : MF := body 2 (m_Ranges___and__ CA)
def r_Ranges___and__ (CA : Ly) : MF := ar 2 (g_Ranges___and__ CA)
theorem sc_Ranges___and__ : FnScope ["self", "other"] ["self", "other"] (defScope s_Ranges___and__) := C8.fnScope_by (by decide +kernel)
theorem F_Ranges___and__ (h : DX.Ht dat K mg base CA) : DL.FnR P w K mg base (L2.CX P w) 5 (He.fAd K ("Ranges", some "__and__")) (spR K CA (r_Ranges___and__ CA)) := by
  obtain ⟨fd, FD⟩ := h.fn 10
  exact fn_all (sf_of FD sc_Ranges___and__ fun cdv A outer s H E hr fr =>
  (sb_one (ss_ret (se_callG (df_mk (n := 0) fr.tk (h.mkC 0) (F_Ranges___init__ (P := P) (w := w) (base := base) h) (hr.mono (k := 4) (by decide))) (by rfl) (h.gC 0 9) (sa_cons (se_callG (df_fn fr.tk (F_common (P := P) (w := w) (base := base) h) (hr.mono (k := 3) (by decide)) (h.kp 6)) (by rfl) (h.g 6) (sa_cons (se_fld (se_var (i := 0)) (h.na [0] "parts")) (sa_cons (se_fld (se_var (i := 1)) (h.na [0] "parts")) sa_nil))) sa_nil))))) (FD.bindsN fun _ _ _ _ _ _ us hl => match us, hl with | [_, _], _ => rfl)
abbrev s_Ranges___sub__ : Stmt := ((C8.clsBody (top 11)).getD 7 (.Pass ⟨0, 0, 0, 0⟩))
def m_Ranges___sub__ (CA : Ly) : MS :=
  (mRet (mF (mkD 0 (r_Ranges___init__ CA)) (aCons (mF (r_common CA) (aCons (mUn (fldD "parts" [0]) (mVar 0)) (aCons (mF (r_outside CA) (aCons (mUn (fldD "parts" [0]) (mVar 1)) aNil)) aNil))) aNil)))
def g_Ranges___sub__ (CA : Ly) : MF := body 2 (m_Ranges___sub__ CA)
def r_Ranges___sub__ (CA : Ly) : MF := ar 2 (g_Ranges___sub__ CA)
theorem sc_Ranges___sub__ : FnScope ["self", "other"] ["self", "other"] (defScope s_Ranges___sub__) := C8.fnScope_by (by decide +kernel)
theorem F_Ranges___sub__ (h : DX.Ht dat K mg base CA) : DL.FnR P w K mg base (L2.CX P w) 5 (He.fAd K ("Ranges", some "__sub__")) (spR K CA (r_Ranges___sub__ CA)) := by
  obtain ⟨fd, FD⟩ := h.fn 11
  exact fn_all (sf_of FD sc_Ranges___sub__ fun cdv A outer s H E hr fr =>
  (sb_one (ss_ret (se_callG (df_mk (n := 0) fr.tk (h.mkC 0) (F_Ranges___init__ (P := P) (w := w) (base := base) h) (hr.mono (k := 4) (by decide))) (by rfl) (h.gC 0 9) (sa_cons (se_callG (df_fn fr.tk (F_common (P := P) (w := w) (base := base) h) (hr.mono (k := 3) (by decide)) (h.kp 6)) (by rfl) (h.g 6) (sa_cons (se_fld (se_var (i := 0)) (h.na [0] "parts")) (sa_cons (se_callG (df_fn fr.tk (F_outside (P := P) (w := w) (base := base) h) (hr.mono (k := 1) (by decide)) (h.kp 7)) (by rfl) (h.g 7) (sa_cons (se_fld (se_var (i := 1)) (h.na [0] "parts")) sa_nil)) sa_nil))) sa_nil))))) (FD.bindsN fun _ _ _ _ _ _ us hl => match us, hl with | [_, _], _ => rfl)
abbrev s_columns_in : Stmt := top 13
def m_columns_in (CA : Ly) (rc : MF) : MS :=
  (mSeq (mIfS (mTest (mBin (inS false) (mBin ixD (mVar 0) (mC (.int 0))) (mTup (aCons (mC (.str "within")) (aCons (mC (.str "missing")) aNil))))) (mRet (mLst (aCons (mBin ixD (mVar 0) (mC (.int 1))) aNil))) mSkip)
  (mSeq (mBox (mLst aNil) 1)
  (mSeq (mIfS (mTest (mBin (inS false) (mBin ixD (mVar 0) (mC (.int 0))) (mTup (aCons (mC (.str "and")) (aCons (mC (.str "or")) (aCons (mC (.str "not")) aNil)))))) (mFor (iSeq (mSlice (mVar 0) (pSome (mC (.int 1))) pNone)) (gN 2) (mExpr (mBm extD (mVar 1) (aCons (mF rc (aCons (mVar 2) aNil)) aNil)))) mSkip)
  (mRet (mVar 1)))))
def r_columns_in (CA : Ly) : Nat → MF
  | 0 => ar 1 (body 3 mStk)
  | j + 1 => ar 1 (body 3 (m_columns_in CA (r_columns_in CA j)))
theorem sc_columns_in : FnScope ["tree", "found", "part"] ["tree"] (defScope s_columns_in) := C8.fnScope_by (by decide +kernel)
theorem F_columns_in (h : DX.Ht dat K mg base CA) : ∀ j : Nat, DL.FnR P w K mg base (L2.CX P w) (1 + j) (He.fAd K ("columns_in", none)) (spR K CA (r_columns_in CA j))
  | 0 => by
    obtain ⟨fd, FD⟩ := h.fn 12
    exact fn_all (sf_of (k := 0) FD sc_columns_in fun cdv A outer s H E hr fr => sb_stk) (FD.bindsN fun _ _ _ _ _ _ us hl => match us, hl with | [_], _ => rfl)
  | j + 1 => by
    have ih := F_columns_in h j
    obtain ⟨fd, FD⟩ := h.fn 12
    exact fn_all (sf_of (k := 1 + j) FD sc_columns_in fun cdv A outer s H E hr fr =>
  (sb_cons (ss_if (st_cmp dop_inS (se_ix (se_var (i := 0)) se_int) (se_tup (sa_cons se_str (sa_cons se_str sa_nil))) (by rfl)) (sb_one (ss_ret (se_lst (sa_cons (se_ix (se_var (i := 0)) se_int) sa_nil)))) sb_nil)
  (sb_cons (ss_box (i := 1) (se_lst sa_nil) sc_columns_in.nd)
  (sb_cons (ss_if (st_cmp dop_inS (se_ix (se_var (i := 0)) se_int) (se_tup (sa_cons se_str (sa_cons se_str (sa_cons se_str sa_nil)))) (by rfl)) (sb_one (ss_for fr (si_seq (se_slice (se_var (i := 0)) (so_some se_int) so_none)) (sg_name (i := 2) sc_columns_in.nd) (sb_one (ss_expr (se_bm F.plainAttrs_list F.slot_list_extend (by rfl) dml_extend (se_var (i := 1)) (sa_cons (se_callG (df_fn fr.tk ih (hr.mono (k := 1 + j) (by omega)) (h.kp 10)) (by rfl) (h.g 10) (sa_cons (se_var (i := 2)) sa_nil)) sa_nil)))))) sb_nil)
  (sb_one (ss_ret (se_var (i := 1)))))))) (FD.bindsN fun _ _ _ _ _ _ us hl => match us, hl with | [_], _ => rfl)
abbrev s_both : Stmt := top 14
def m_both (CA : Ly) : MS :=
  (mSeq (mIfS (mOr (mTest (mBin eqD (mVar 0) (mVar 2))) (mTest (mBin eqD (mVar 1) (mVar 2)))) (mRet (mVar 2)) mSkip)
  (mSeq (mIfS (mOr (mTest (mUn isN (mVar 0))) (mTest (mUn isN (mVar 1)))) (mRet (mC .non)) mSkip)
  (mRet (mNotV (mVar 2)))))
def g_both (CA : Ly) : MF := body 3 (m_both CA)
def r_both (CA : Ly) : MF := ar 3 (g_both CA)
theorem sc_both : FnScope ["one", "other", "strong"] ["one", "other", "strong"] (defScope s_both) := C8.fnScope_by (by decide +kernel)
theorem F_both (h : DX.Ht dat K mg base CA) : DL.FnR P w K mg base (L2.CX P w) 1 (He.fAd K ("both", none)) (spR K CA (r_both CA)) := by
  obtain ⟨fd, FD⟩ := h.fn 13
  exact fn_all (sf_of FD sc_both fun cdv A outer s H E hr fr =>
  (sb_cons (ss_if (SW.st' (sw_or (st_cmp (dop_eqD hr.u64) (se_var (i := 0)) (se_var (i := 2)) (by rfl)) (sw_or1 (st_cmp (dop_eqD hr.u64) (se_var (i := 1)) (se_var (i := 2)) (by rfl))))) (sb_one (ss_ret (se_var (i := 2)))) sb_nil)
  (sb_cons (ss_if (SW.st' (sw_or (st_isN (se_var (i := 0))) (sw_or1 (st_isN (se_var (i := 1)))))) (sb_one (ss_ret se_non)) sb_nil)
  (sb_one (ss_ret (se_not (se_var (i := 2)))))))) (FD.bindsN fun _ _ _ _ _ _ us hl => match us, hl with | [_, _, _], _ => rfl)
abbrev s_truth_of : Stmt := top 15
def m_truth_of (CA : Ly) (rc : MF) : MS :=
  (mSeq (mAsg (mBin ixD (mVar 0) (mC (.int 0))) (gN 2))
  (mSeq (mIfS (mTest (mBin eqD (mVar 2) (mC (.str "within")))) (mSeq (mAsg (mBin dgD (mVar 1) (mBin ixD (mVar 0) (mC (.int 1)))) (gN 3))
   (mRet (mIf (mTest (mUn isN (mVar 3))) (mC .non) (mF (r_has_number CA) (aCons (mBin ixD (mVar 0) (mC (.int 2))) (aCons (mVar 3) aNil)))))) mSkip)
  (mSeq (mIfS (mTest (mBin eqD (mVar 2) (mC (.str "missing")))) (mRet (mUn isN (mBin dgD (mVar 1) (mBin ixD (mVar 0) (mC (.int 1)))))) mSkip)
  (mSeq (mIfS (mTest (mBin eqD (mVar 2) (mC (.str "not")))) (mSeq (mAsg (mF rc (aCons (mBin ixD (mVar 0) (mC (.int 1))) (aCons (mVar 1) aNil))) (gN 4))
   (mRet (mIf (mTest (mUn isN (mVar 4))) (mC .non) (mNotV (mVar 4))))) mSkip)
  (mSeq (mIfS (mTest (mBin (inS false) (mVar 2) (mTup (aCons (mC (.str "and")) (aCons (mC (.str "or")) aNil))))) (mRet (mF (r_both CA) (aCons (mF rc (aCons (mBin ixD (mVar 0) (mC (.int 1))) (aCons (mVar 1) aNil))) (aCons (mF rc (aCons (mBin ixD (mVar 0) (mC (.int 2))) (aCons (mVar 1) aNil))) (aCons (mBin eqD (mVar 2) (mC (.str "or"))) aNil))))) mSkip)
  (mRet (mBin eqD (mVar 2) (mC (.str "always")))))))))
def r_truth_of (CA : Ly) : Nat → MF
  | 0 => ar 2 (body 5 mStk)
  | j + 1 => ar 2 (body 5 (m_truth_of CA (r_truth_of CA j)))
theorem sc_truth_of : FnScope ["tree", "values", "word", "value", "inner"] ["tree", "values"] (defScope s_truth_of) := C8.fnScope_by (by decide +kernel)
theorem F_truth_of (h : DX.Ht dat K mg base CA) : ∀ j : Nat, DL.FnR P w K mg base (L2.CX P w) (2 + j) (He.fAd K ("truth_of", none)) (spR K CA (r_truth_of CA j))
  | 0 => by
    obtain ⟨fd, FD⟩ := h.fn 14
    exact fn_all (sf_of (k := 1) FD sc_truth_of fun cdv A outer s H E hr fr => sb_stk) (FD.bindsN fun _ _ _ _ _ _ us hl => match us, hl with | [_, _], _ => rfl)
  | j + 1 => by
    have ih := F_truth_of h j
    obtain ⟨fd, FD⟩ := h.fn 14
    exact fn_all (sf_of (k := 2 + j) FD sc_truth_of fun cdv A outer s H E hr fr =>
  (sb_cons (ss_set (i := 2) (se_ix (se_var (i := 0)) se_int) sc_truth_of.nd)
  (sb_cons (ss_if (st_cmp (dop_eqD hr.u64) (se_var (i := 2)) se_str (by rfl)) (sb_cons (ss_set (i := 3) (se_dget hr.u64 (se_var (i := 1)) (se_ix (se_var (i := 0)) se_int)) sc_truth_of.nd)
   (sb_one (ss_ret (se_if (st_isN (se_var (i := 3))) se_non (se_callG (df_fn fr.tk (F_has_number (P := P) (w := w) (base := base) h) (hr.mono (k := 1) (by omega)) (h.kp 8)) (by rfl) (h.g 8) (sa_cons (se_ix (se_var (i := 0)) se_int) (sa_cons (se_var (i := 3)) sa_nil))))))) sb_nil)
  (sb_cons (ss_if (st_cmp (dop_eqD hr.u64) (se_var (i := 2)) se_str (by rfl)) (sb_one (ss_ret (se_isN (se_dget hr.u64 (se_var (i := 1)) (se_ix (se_var (i := 0)) se_int))))) sb_nil)
  (sb_cons (ss_if (st_cmp (dop_eqD hr.u64) (se_var (i := 2)) se_str (by rfl)) (sb_cons (ss_set (i := 4) (se_callG (df_fn fr.tk ih (hr.mono (k := 2 + j) (by omega)) (h.kp 12)) (by rfl) (h.g 12) (sa_cons (se_ix (se_var (i := 0)) se_int) (sa_cons (se_var (i := 1)) sa_nil))) sc_truth_of.nd)
   (sb_one (ss_ret (se_if (st_isN (se_var (i := 4))) se_non (se_not (se_var (i := 4))))))) sb_nil)
  (sb_cons (ss_if (st_cmp dop_inS (se_var (i := 2)) (se_tup (sa_cons se_str (sa_cons se_str sa_nil))) (by rfl)) (sb_one (ss_ret (se_callG (df_fn fr.tk (F_both (P := P) (w := w) (base := base) h) (hr.mono (k := 1) (by omega)) (h.kp 11)) (by rfl) (h.g 11) (sa_cons (se_callG (df_fn fr.tk ih (hr.mono (k := 2 + j) (by omega)) (h.kp 12)) (by rfl) (h.g 12) (sa_cons (se_ix (se_var (i := 0)) se_int) (sa_cons (se_var (i := 1)) sa_nil))) (sa_cons (se_callG (df_fn fr.tk ih (hr.mono (k := 2 + j) (by omega)) (h.kp 12)) (by rfl) (h.g 12) (sa_cons (se_ix (se_var (i := 0)) se_int) (sa_cons (se_var (i := 1)) sa_nil))) (sa_cons (se_cmp (dop_eqD hr.u64) (se_var (i := 2)) se_str (by rfl)) sa_nil)))))) sb_nil)
  (sb_one (ss_ret (se_cmp (dop_eqD hr.u64) (se_var (i := 2)) se_str (by rfl)))))))))) (FD.bindsN fun _ _ _ _ _ _ us hl => match us, hl with | [_, _], _ => rfl)
abbrev s_Filter___init__ : Stmt := ((C8.clsBody (top 16)).getD 0 (.Pass ⟨0, 0, 0, 0⟩))
def m_Filter___init__ (CA : Ly) : MS :=
  (mSeq (mSetF "tree" [1] (mVar 1) (mVar 0))
  (mSetF "columns" [1] (mCB (un1 tupD) (aCons (mSortSet (mF (r_columns_in CA 24) (aCons (mVar 1) aNil))) aNil)) (mVar 0)))
def g_Filter___init__ (CA : Ly) : MF := body 2 (m_Filter___init__ CA)
def r_Filter___init__ (CA : Ly) : MF := ar 2 (g_Filter___init__ CA)
theorem sc_Filter___init__ : FnScope ["self", "tree"] ["self", "tree"] (defScope s_Filter___init__) := C8.fnScope_by (by decide +kernel)
theorem F_Filter___init__ (h : DX.Ht dat K mg base CA) : DL.FnR P w K mg base (L2.CX P w) 26 (He.fAd K ("Filter", some "__init__")) (spR K CA (r_Filter___init__ CA)) := by
  obtain ⟨fd, FD⟩ := h.fn 15
  exact fn_all (sf_of FD sc_Filter___init__ fun cdv A outer s H E hr fr =>
  (sb_cons (ss_setF (se_var (i := 1)) (se_var (i := 0)) (h.na [1] "tree"))
  (sb_one (ss_setF (se_callTy dc_tuple (by rfl) (h.b 5) (by rfl) (sa_cons (se_sortSet fr.calm (se_callG (df_fn fr.tk (F_columns_in (P := P) (w := w) (base := base) h 24) (hr.mono (k := 25) (by decide)) (h.kp 10)) (by rfl) (h.g 10) (sa_cons (se_var (i := 1)) sa_nil)) (by rfl) (by rfl) (h.b 12) (h.b 14)) sa_nil)) (se_var (i := 0)) (h.na [1] "columns"))))) (FD.bindsN fun _ _ _ _ _ _ us hl => match us, hl with | [_, _], _ => rfl)
abbrev s_Filter_within : Stmt := ((C8.clsBody (top 16)).getD 1 (.Pass ⟨0, 0, 0, 0⟩))
def m_Filter_within (CA : Ly) : MS :=
  (mRet (mFL 0 (CA 1) (mkD 1 (r_Filter___init__ CA)) (aCons (mTup (aCons (mC (.str "within")) (aCons (mVar 1) (aCons (mUn (fldD "parts" [0]) (mVar 2)) aNil)))) aNil)))
def g_Filter_within (CA : Ly) : MF := body 3 (m_Filter_within CA)
def r_Filter_within (CA : Ly) : MF := ar 3 (g_Filter_within CA)
theorem sc_Filter_within : FnScope ["cls", "column", "ranges"] ["cls", "column", "ranges"] (defScope s_Filter_within) := C8.fnScope_by (by decide +kernel)
theorem F_Filter_within (h : DX.Ht dat K mg base CA) : DL.FnR P w K mg base (L2.CX P w) 28 (DX.cmA K "Filter" "within") (spR K CA (r_Filter_within CA)) := by
  obtain ⟨fd, FD⟩ := h.fc 4
  exact fn_all (sf_of FD sc_Filter_within fun cdv A outer s H E hr fr =>
  (sb_one (ss_ret (se_callL (i := 0) (df_mk (n := 1) fr.tk (h.mkC 1) (F_Filter___init__ (P := P) (w := w) (base := base) h) (hr.mono (k := 27) (by decide))) (by rfl) (.inl (by rfl)) (sa_cons (se_tup (sa_cons se_str (sa_cons (se_var (i := 1)) (sa_cons (se_fld (se_var (i := 2)) (h.na [0] "parts")) sa_nil)))) sa_nil))))) (FD.bindsN fun _ _ _ _ _ _ us hl => match us, hl with | [_, _, _], _ => rfl)
abbrev s_Filter_missing : Stmt := ((C8.clsBody (top 16)).getD 2 (.Pass ⟨0, 0, 0, 0⟩))
def m_Filter_missing (CA : Ly) : MS :=
  (mRet (mFL 0 (CA 1) (mkD 1 (r_Filter___init__ CA)) (aCons (mTup (aCons (mC (.str "missing")) (aCons (mVar 1) aNil))) aNil)))
def g_Filter_missing (CA : Ly) : MF := body 2 (m_Filter_missing CA)
def r_Filter_missing (CA : Ly) : MF := ar 2 (g_Filter_missing CA)
theorem sc_Filter_missing : FnScope ["cls", "column"] ["cls", "column"] (defScope s_Filter_missing) := C8.fnScope_by (by decide +kernel)
theorem F_Filter_missing (h : DX.Ht dat K mg base CA) : DL.FnR P w K mg base (L2.CX P w) 28 (DX.cmA K "Filter" "missing") (spR K CA (r_Filter_missing CA)) := by
  obtain ⟨fd, FD⟩ := h.fc 5
  exact fn_all (sf_of FD sc_Filter_missing fun cdv A outer s H E hr fr =>
  (sb_one (ss_ret (se_callL (i := 0) (df_mk (n := 1) fr.tk (h.mkC 1) (F_Filter___init__ (P := P) (w := w) (base := base) h) (hr.mono (k := 27) (by decide))) (by rfl) (.inl (by rfl)) (sa_cons (se_tup (sa_cons se_str (sa_cons (se_var (i := 1)) sa_nil))) sa_nil))))) (FD.bindsN fun _ _ _ _ _ _ us hl => match us, hl with | [_, _], _ => rfl)
abbrev s_Filter_always : Stmt := ((C8.clsBody (top 16)).getD 3 (.Pass ⟨0, 0, 0, 0⟩))
def m_Filter_always (CA : Ly) : MS :=
  (mRet (mF (mkD 1 (r_Filter___init__ CA)) (aCons (mTup (aCons (mC (.str "always")) aNil)) aNil)))
def g_Filter_always (CA : Ly) : MF := body 1 (m_Filter_always CA)
def r_Filter_always (CA : Ly) : MF := ar 1 (g_Filter_always CA)
theorem sc_Filter_always : FnScope ["cls"] ["cls"] (defScope s_Filter_always) := C8.fnScope_by (by decide +kernel)
theorem F_Filter_always (h : DX.Ht dat K mg base CA) : DL.FnR P w K mg base (L2.CX P w) 28 (DX.cmA K "Filter" "always") (spR K CA (r_Filter_always CA)) := by
  obtain ⟨fd, FD⟩ := h.fc 6
  exact fn_all (sf_of FD sc_Filter_always fun cdv A outer s H E hr fr =>
  (sb_one (ss_ret (se_callG (df_mk (n := 1) fr.tk (h.mkC 1) (F_Filter___init__ (P := P) (w := w) (base := base) h) (hr.mono (k := 27) (by decide))) (by rfl) (h.gC 1 13) (sa_cons (se_tup (sa_cons se_str sa_nil)) sa_nil))))) (FD.bindsN fun _ _ _ _ _ _ us hl => match us, hl with | [_], _ => rfl)
abbrev s_Filter_never : Stmt := ((C8.clsBody (top 16)).getD 4 (.Pass ⟨0, 0, 0, 0⟩))
def m_Filter_never (CA : Ly) : MS :=
  (mRet (mFL 0 (CA 1) (mkD 1 (r_Filter___init__ CA)) (aCons (mTup (aCons (mC (.str "never")) aNil)) aNil)))
def g_Filter_never (CA : Ly) : MF := body 1 (m_Filter_never CA)
def r_Filter_never (CA : Ly) : MF := ar 1 (g_Filter_never CA)
theorem sc_Filter_never : FnScope ["cls"] ["cls"] (defScope s_Filter_never) := C8.fnScope_by (by decide +kernel)
theorem F_Filter_never (h : DX.Ht dat K mg base CA) : DL.FnR P w K mg base (L2.CX P w) 28 (DX.cmA K "Filter" "never") (spR K CA (r_Filter_never CA)) := by
  obtain ⟨fd, FD⟩ := h.fc 7
  exact fn_all (sf_of FD sc_Filter_never fun cdv A outer s H E hr fr =>
  (sb_one (ss_ret (se_callL (i := 0) (df_mk (n := 1) fr.tk (h.mkC 1) (F_Filter___init__ (P := P) (w := w) (base := base) h) (hr.mono (k := 27) (by decide))) (by rfl) (.inl (by rfl)) (sa_cons (se_tup (sa_cons se_str sa_nil)) sa_nil))))) (FD.bindsN fun _ _ _ _ _ _ us hl => match us, hl with | [_], _ => rfl)
abbrev s_Filter___and__ : Stmt := ((C8.clsBody (top 16)).getD 5 (.Pass ⟨0, 0, 0, 0⟩))
def m_Filter___and__ (CA : Ly) : MS :=
  (mRet (mF (mkD 1 (r_Filter___init__ CA)) (aCons (mTup (aCons (mC (.str "and")) (aCons (mUn (fldD "tree" [1]) (mVar 0)) (aCons (mUn (fldD "tree" [1]) (mVar 1)) aNil)))) aNil)))
def g_Filter___and__ (CA : Ly) : MF := body 2 (m_Filter___and__ CA)
def r_Filter___and__ (CA : Ly) : MF := ar 2 (g_Filter___and__ CA)
theorem sc_Filter___and__ : FnScope ["self", "other"] ["self", "other"] (defScope s_Filter___and__) := C8.fnScope_by (by decide +kernel)
theorem F_Filter___and__ (h : DX.Ht dat K mg base CA) : DL.FnR P w K mg base (L2.CX P w) 28 (He.fAd K ("Filter", some "__and__")) (spR K CA (r_Filter___and__ CA)) := by
  obtain ⟨fd, FD⟩ := h.fn 16
  exact fn_all (sf_of FD sc_Filter___and__ fun cdv A outer s H E hr fr =>
  (sb_one (ss_ret (se_callG (df_mk (n := 1) fr.tk (h.mkC 1) (F_Filter___init__ (P := P) (w := w) (base := base) h) (hr.mono (k := 27) (by decide))) (by rfl) (h.gC 1 13) (sa_cons (se_tup (sa_cons se_str (sa_cons (se_fld (se_var (i := 0)) (h.na [1] "tree")) (sa_cons (se_fld (se_var (i := 1)) (h.na [1] "tree")) sa_nil)))) sa_nil))))) (FD.bindsN fun _ _ _ _ _ _ us hl => match us, hl with | [_, _], _ => rfl)
abbrev s_Filter___or__ : Stmt := ((C8.clsBody (top 16)).getD 6 (.Pass ⟨0, 0, 0, 0⟩))
def m_Filter___or__ (CA : Ly) : MS :=
  (mRet (mF (mkD 1 (r_Filter___init__ CA)) (aCons (mTup (aCons (mC (.str "or")) (aCons (mUn (fldD "tree" [1]) (mVar 0)) (aCons (mUn (fldD "tree" [1]) (mVar 1)) aNil)))) aNil)))
def g_Filter___or__ (CA : Ly) : MF := body 2 (m_Filter___or__ CA)
def r_Filter___or__ (CA : Ly) : MF := ar 2 (g_Filter___or__ CA)
theorem sc_Filter___or__ : FnScope ["self", "other"] ["self", "other"] (defScope s_Filter___or__) := C8.fnScope_by (by decide +kernel)
theorem F_Filter___or__ (h : DX.Ht dat K mg base CA) : DL.FnR P w K mg base (L2.CX P w) 28 (He.fAd K ("Filter", some "__or__")) (spR K CA (r_Filter___or__ CA)) := by
  obtain ⟨fd, FD⟩ := h.fn 17
  exact fn_all (sf_of FD sc_Filter___or__ fun cdv A outer s H E hr fr =>
  (sb_one (ss_ret (se_callG (df_mk (n := 1) fr.tk (h.mkC 1) (F_Filter___init__ (P := P) (w := w) (base := base) h) (hr.mono (k := 27) (by decide))) (by rfl) (h.gC 1 13) (sa_cons (se_tup (sa_cons se_str (sa_cons (se_fld (se_var (i := 0)) (h.na [1] "tree")) (sa_cons (se_fld (se_var (i := 1)) (h.na [1] "tree")) sa_nil)))) sa_nil))))) (FD.bindsN fun _ _ _ _ _ _ us hl => match us, hl with | [_, _], _ => rfl)
abbrev s_Filter___invert__ : Stmt := ((C8.clsBody (top 16)).getD 7 (.Pass ⟨0, 0, 0, 0⟩))
def m_Filter___invert__ (CA : Ly) : MS :=
  (mRet (mF (mkD 1 (r_Filter___init__ CA)) (aCons (mTup (aCons (mC (.str "not")) (aCons (mUn (fldD "tree" [1]) (mVar 0)) aNil))) aNil)))
def g_Filter___invert__ (CA : Ly) : MF := body 1 (m_Filter___invert__ CA)
def r_Filter___invert__ (CA : Ly) : MF := ar 1 (g_Filter___invert__ CA)
theorem sc_Filter___invert__ : FnScope ["self"] ["self"] (defScope s_Filter___invert__) := C8.fnScope_by (by decide +kernel)
theorem F_Filter___invert__ (h : DX.Ht dat K mg base CA) : DL.FnR P w K mg base (L2.CX P w) 28 (He.fAd K ("Filter", some "__invert__")) (spR K CA (r_Filter___invert__ CA)) := by
  obtain ⟨fd, FD⟩ := h.fn 18
  exact fn_all (sf_of FD sc_Filter___invert__ fun cdv A outer s H E hr fr =>
  (sb_one (ss_ret (se_callG (df_mk (n := 1) fr.tk (h.mkC 1) (F_Filter___init__ (P := P) (w := w) (base := base) h) (hr.mono (k := 27) (by decide))) (by rfl) (h.gC 1 13) (sa_cons (se_tup (sa_cons se_str (sa_cons (se_fld (se_var (i := 0)) (h.na [1] "tree")) sa_nil))) sa_nil))))) (FD.bindsN fun _ _ _ _ _ _ us hl => match us, hl with | [_], _ => rfl)
abbrev s_Filter___eq__ : Stmt := ((C8.clsBody (top 16)).getD 8 (.Pass ⟨0, 0, 0, 0⟩))
def m_Filter___eq__ (CA : Ly) : MS :=
  (mRet (mAndV (mCB (un2 (isiD CA dat.cs dat.kit)) (aCons (mVar 1) (aCons (mC (.adr (CA 1))) aNil))) (mBin eqD (mUn (fldD "tree" [1]) (mVar 0)) (mUn (fldD "tree" [1]) (mVar 1)))))
def g_Filter___eq__ (CA : Ly) : MF := body 2 (m_Filter___eq__ CA)
def r_Filter___eq__ (CA : Ly) : MF := ar 2 (g_Filter___eq__ CA)
theorem sc_Filter___eq__ : FnScope ["self", "other"] ["self", "other"] (defScope s_Filter___eq__) := C8.fnScope_by (by decide +kernel)
theorem F_Filter___eq__ (h : DX.Ht dat K mg base CA) : DL.FnR P w K mg base (L2.CX P w) 1 (He.fAd K ("Filter", some "__eq__")) (spR K CA (r_Filter___eq__ CA)) := by
  obtain ⟨fd, FD⟩ := h.fn 19
  exact fn_all (sf_of FD sc_Filter___eq__ fun cdv A outer s H E hr fr =>
  (sb_one (ss_ret (se_and (se_callB (dc_isi h.kcs h.kit) (by rfl) (h.b 9) (by rfl) (sa_cons (se_var (i := 1)) (sa_cons (se_glob (by rfl) (h.gC 1 13)) sa_nil))) (se_one (se_cmp (dop_eqD hr.u64) (se_fld (se_var (i := 0)) (h.na [1] "tree")) (se_fld (se_var (i := 1)) (h.na [1] "tree")) (by rfl))))))) (FD.bindsN fun _ _ _ _ _ _ us hl => match us, hl with | [_, _], _ => rfl)
abbrev s_Filter___call__ : Stmt := ((C8.clsBody (top 16)).getD 9 (.Pass ⟨0, 0, 0, 0⟩))
def m_Filter___call__ (CA : Ly) : MS :=
  (mRet (mF (r_truth_of CA 24) (aCons (mUn (fldD "tree" [1]) (mVar 0)) (aCons (mVar 1) aNil))))
def g_Filter___call__ (CA : Ly) : MF := body 2 (m_Filter___call__ CA)
def r_Filter___call__ (CA : Ly) : MF := ar 2 (g_Filter___call__ CA)
theorem sc_Filter___call__ : FnScope ["self", "values"] ["self", "values"] (defScope s_Filter___call__) := C8.fnScope_by (by decide +kernel)
theorem F_Filter___call__ (h : DX.Ht dat K mg base CA) : DL.FnR P w K mg base (L2.CX P w) 27 (He.fAd K ("Filter", some "__call__")) (spR K CA (r_Filter___call__ CA)) := by
  obtain ⟨fd, FD⟩ := h.fn 20
  exact fn_all (sf_of FD sc_Filter___call__ fun cdv A outer s H E hr fr =>
  (sb_one (ss_ret (se_callG (df_fn fr.tk (F_truth_of (P := P) (w := w) (base := base) h 24) (hr.mono (k := 26) (by decide)) (h.kp 12)) (by rfl) (h.g 12) (sa_cons (se_fld (se_var (i := 0)) (h.na [1] "tree")) (sa_cons (se_var (i := 1)) sa_nil)))))) (FD.bindsN fun _ _ _ _ _ _ us hl => match us, hl with | [_, _], _ => rfl)
abbrev s__law_pen : Stmt := top 18
def m__law_pen (CA : Ly) : MS :=
  (mRet (mLst (aCons (mCB (un1 listD) (aCons (mSlice (mVar 0) pNone (pSome (mC (.int 63)))) aNil)) (aCons (mC (.int 0)) (aCons (mC (.int 0)) aNil)))))
def g__law_pen (CA : Ly) : MF := body 1 (m__law_pen CA)
def r__law_pen (CA : Ly) : MF := ar 1 (g__law_pen CA)
theorem sc__law_pen : FnScope ["script"] ["script"] (defScope s__law_pen) := C8.fnScope_by (by decide +kernel)
theorem F__law_pen (h : DX.Ht dat K mg base CA) : DL.FnR P w K mg base (L2.CX P w) 1 (He.fAd K ("_law_pen", none)) (spR K CA (r__law_pen CA)) := by
  obtain ⟨fd, FD⟩ := h.fn 21
  exact fn_all (sf_of FD sc__law_pen fun cdv A outer s H E hr fr =>
  (sb_one (ss_ret (se_lst (sa_cons (se_callTy dc_list (by rfl) (h.b 4) (by rfl) (sa_cons (se_slice (se_var (i := 0)) so_none (so_some se_int)) sa_nil)) (sa_cons se_int (sa_cons se_int sa_nil))))))) (FD.bindsN fun _ _ _ _ _ _ us hl => match us, hl with | [_], _ => rfl)
abbrev s__law_draw : Stmt := top 19
def m__law_draw (CA : Ly) : MS :=
  (mSeq (mIfS (mTest (mBin gtI (mBin ixD (mVar 0) (mC (.int 2))) (mC (.int 0)))) (mSeq (mAsg (mBin modI (mCB (un1 intD) (aCons (mBin ixD (mVar 0) (mC (.int 2))) aNil)) (mVar 1)) (gN 5))
   (mSeq (mSetIx (mBin divW (mBin ixD (mVar 0) (mC (.int 2))) (mVar 1)) (mVar 0) (mC (.int 2)))
   (mRet (mVar 5)))) mSkip)
  (mSeq (mAsg (mBin ixD (mVar 0) (mC (.int 1))) (gN 2))
  (mSeq (mSetIx (mBin addI (mVar 2) (mC (.int 1))) (mVar 0) (mC (.int 1)))
  (mSeq (mAsg (mBin addI (mBin mulI (mC (.int 43117)) (mVar 2)) (mC (.int 10))) (gN 3))
  (mSeq (mIfS (mTest (mBin neD (mBin ixD (mVar 0) (mC (.int 0))) (mLst aNil))) (mAsg (mBin ixD (mBin ixD (mVar 0) (mC (.int 0))) (mBin modI (mCB (un1 intD) (aCons (mVar 2) aNil)) (mCB (un1 lenD) (aCons (mBin ixD (mVar 0) (mC (.int 0))) aNil)))) (gN 3)) mSkip)
  (mSeq (mIfS (mAnd (mTest (mBin ltI (mVar 2) (mCB (un1 lenD) (aCons (mBin ixD (mVar 0) (mC (.int 0))) aNil)))) (mTest (mBin geI (mCB (un1 absD) (aCons (mVar 3) aNil)) (mBin powI (mC (.int 10)) (mC (.int 18)))))) (mSeq (mAsg (mBin addI (mBin mulI (mC (.int 2)) (mCB (un1 absD) (aCons (mVar 3) aNil))) (mCB (un1 intD) (aCons (mBin ltI (mVar 3) (mC (.int 0))) aNil))) (gN 6))
   (mSeq (mSetIx (mBin divW (mVar 6) (mVar 1)) (mVar 0) (mC (.int 2)))
   (mRet (mBin modI (mCB (un1 intD) (aCons (mVar 6) aNil)) (mVar 1))))) mSkip)
  (mSeq (mAsg (mBin modI (mBin powI (mCB (un1 intD) (aCons (mBin addI (mBin addI (mBin modI (mCB (un1 intD) (aCons (mVar 3) aNil)) (mC (.int 2147483549))) (mBin mulI (mC (.int 53327)) (mVar 2))) (mC (.int 24))) aNil)) (mC (.int 5))) (mC (.int 2147483579))) (gN 4))
  (mSeq (mAsg (mBin modI (mBin powI (mCB (un1 intD) (aCons (mBin addI (mBin addI (mBin mulI (mVar 4) (mBin addI (mBin mulI (mC (.int 2)) (mVar 2)) (mC (.int 37)))) (mBin mulI (mBin mulI (mC (.int 70001)) (mVar 2)) (mVar 2))) (mC (.int 13))) aNil)) (mC (.int 3))) (mC (.int 2147483629))) (gN 4))
  (mRet (mBin modI (mCB (un1 intD) (aCons (mBin divW (mVar 4) (mC (.int 16))) aNil)) (mVar 1)))))))))))
def g__law_draw (CA : Ly) : MF := body 7 (m__law_draw CA)
def r__law_draw (CA : Ly) : MF := ar 2 (g__law_draw CA)
theorem sc__law_draw : FnScope ["pen", "many", "at", "cell", "mixed", "digit", "large"] ["pen", "many"] (defScope s__law_draw) := C8.fnScope_by (by decide +kernel)
theorem F__law_draw (h : DX.Ht dat K mg base CA) : DL.FnR P w K mg base (L2.CX P w) 1 (He.fAd K ("_law_draw", none)) (spR K CA (r__law_draw CA)) := by
  obtain ⟨fd, FD⟩ := h.fn 22
  exact fn_all (sf_of FD sc__law_draw fun cdv A outer s H E hr fr =>
  (sb_cons (ss_if (st_cmp dop_gtI (se_ix (se_var (i := 0)) se_int) se_int (by rfl)) (sb_cons (ss_set (i := 5) (se_bin dop_modI (se_callTy dc_int (by rfl) (h.b 2) (by rfl) (sa_cons (se_ix (se_var (i := 0)) se_int) sa_nil)) (se_var (i := 1))) sc__law_draw.nd)
   (sb_cons (ss_setIx (se_bin dop_divW (se_ix (se_var (i := 0)) se_int) (se_var (i := 1))) (se_var (i := 0)) se_int)
   (sb_one (ss_ret (se_var (i := 5)))))) sb_nil)
  (sb_cons (ss_set (i := 2) (se_ix (se_var (i := 0)) se_int) sc__law_draw.nd)
  (sb_cons (ss_setIx (se_bin dop_addI (se_var (i := 2)) se_int) (se_var (i := 0)) se_int)
  (sb_cons (ss_set (i := 3) (se_bin dop_addI (se_bin dop_mulI se_int (se_var (i := 2))) se_int) sc__law_draw.nd)
  (sb_cons (ss_if (st_cmp (dop_neD hr.u64) (se_ix (se_var (i := 0)) se_int) (se_lst sa_nil) (by rfl)) (sb_one (ss_set (i := 3) (se_ix (se_ix (se_var (i := 0)) se_int) (se_bin dop_modI (se_callTy dc_int (by rfl) (h.b 2) (by rfl) (sa_cons (se_var (i := 2)) sa_nil)) (se_callB dc_len (by rfl) (h.b 0) (by rfl) (sa_cons (se_ix (se_var (i := 0)) se_int) sa_nil)))) sc__law_draw.nd)) sb_nil)
  (sb_cons (ss_if (SW.st' (sw_and (st_cmp dop_ltI (se_var (i := 2)) (se_callB dc_len (by rfl) (h.b 0) (by rfl) (sa_cons (se_ix (se_var (i := 0)) se_int) sa_nil)) (by rfl)) (sw_and1 (st_cmp dop_geI (se_callB dc_abs (by rfl) (h.b 1) (by rfl) (sa_cons (se_var (i := 3)) sa_nil)) (se_bin dop_powI se_int se_int) (by rfl))))) (sb_cons (ss_set (i := 6) (se_bin dop_addI (se_bin dop_mulI se_int (se_callB dc_abs (by rfl) (h.b 1) (by rfl) (sa_cons (se_var (i := 3)) sa_nil))) (se_callTy dc_int (by rfl) (h.b 2) (by rfl) (sa_cons (se_cmp dop_ltI (se_var (i := 3)) se_int (by rfl)) sa_nil))) sc__law_draw.nd)
   (sb_cons (ss_setIx (se_bin dop_divW (se_var (i := 6)) (se_var (i := 1))) (se_var (i := 0)) se_int)
   (sb_one (ss_ret (se_bin dop_modI (se_callTy dc_int (by rfl) (h.b 2) (by rfl) (sa_cons (se_var (i := 6)) sa_nil)) (se_var (i := 1))))))) sb_nil)
  (sb_cons (ss_set (i := 4) (se_bin dop_modI (se_bin dop_powI (se_callTy dc_int (by rfl) (h.b 2) (by rfl) (sa_cons (se_bin dop_addI (se_bin dop_addI (se_bin dop_modI (se_callTy dc_int (by rfl) (h.b 2) (by rfl) (sa_cons (se_var (i := 3)) sa_nil)) se_int) (se_bin dop_mulI se_int (se_var (i := 2)))) se_int) sa_nil)) se_int) se_int) sc__law_draw.nd)
  (sb_cons (ss_set (i := 4) (se_bin dop_modI (se_bin dop_powI (se_callTy dc_int (by rfl) (h.b 2) (by rfl) (sa_cons (se_bin dop_addI (se_bin dop_addI (se_bin dop_mulI (se_var (i := 4)) (se_bin dop_addI (se_bin dop_mulI se_int (se_var (i := 2))) se_int)) (se_bin dop_mulI (se_bin dop_mulI se_int (se_var (i := 2))) (se_var (i := 2)))) se_int) sa_nil)) se_int) se_int) sc__law_draw.nd)
  (sb_one (ss_ret (se_bin dop_modI (se_callTy dc_int (by rfl) (h.b 2) (by rfl) (sa_cons (se_bin dop_divW (se_var (i := 4)) se_int) sa_nil)) (se_var (i := 1)))))))))))))) (FD.bindsN fun _ _ _ _ _ _ us hl => match us, hl with | [_, _], _ => rfl)
abbrev s__law_ranges : Stmt := top 20
def m__law_ranges (CA : Ly) : MS :=
  (mSeq (mAsg (mBin subI (mF (r__law_draw CA) (aCons (mVar 0) (aCons (mC (.int 9)) aNil))) (mC (.int 4))) (gN 1))
  (mSeq (mAsg (mF (r__law_draw CA) (aCons (mVar 0) (aCons (mC (.int 7)) aNil))) (gN 2))
  (mSeq (mIfS (mTest (mBin eqD (mVar 2) (mC (.int 0)))) (mRet (mCM (CA 0) (r_Ranges_of CA) (mC (.adr (CA 0))) (aCons (mVar 1) (aCons (mBin addI (mBin addI (mVar 1) (mC (.int 1))) (mF (r__law_draw CA) (aCons (mVar 0) (aCons (mC (.int 3)) aNil)))) (aCons (mBin addI (mVar 1) (mC (.int 5))) aNil))))) mSkip)
  (mSeq (mIfS (mTest (mBin eqD (mVar 2) (mC (.int 1)))) (mRet (mCM (CA 0) (r_Ranges_between CA) (mC (.adr (CA 0))) (aCons (mC .non) (aCons (mVar 1) aNil)))) mSkip)
  (mSeq (mIfS (mTest (mBin eqD (mVar 2) (mC (.int 2)))) (mRet (mCM (CA 0) (r_Ranges_between CA) (mC (.adr (CA 0))) (aCons (mVar 1) (aCons (mC .non) aNil)))) mSkip)
  (mSeq (mIfS (mTest (mBin eqD (mVar 2) (mC (.int 3)))) (mRet (mBin (fun x y bx => noX (binC 0 (r_Ranges___sub__ CA) x y bx)) (mCM (CA 0) (r_Ranges_full CA) (mC (.adr (CA 0))) aNil) (mCM (CA 0) (r_Ranges_of CA) (mC (.adr (CA 0))) (aCons (mVar 1) aNil)))) mSkip)
  (mSeq (mIfS (mTest (mBin eqD (mVar 2) (mC (.int 4)))) (mRet (mBin ixD (mLst (aCons (mCM (CA 0) (r_Ranges_empty CA) (mC (.adr (CA 0))) aNil) (aCons (mCM (CA 0) (r_Ranges_full CA) (mC (.adr (CA 0))) aNil) aNil))) (mF (r__law_draw CA) (aCons (mVar 0) (aCons (mC (.int 2)) aNil))))) mSkip)
  (mSeq (mIfS (mTest (mBin eqD (mVar 2) (mC (.int 5)))) (mRet (mBin (fun x y bx => noX (binC 0 (r_Ranges___or__ CA) x y bx)) (mCM (CA 0) (r_Ranges_between CA) (mC (.adr (CA 0))) (aCons (mVar 1) (aCons (mBin addI (mVar 1) (mF (r__law_draw CA) (aCons (mVar 0) (aCons (mC (.int 4)) aNil)))) aNil))) (mCM (CA 0) (r_Ranges_of CA) (mC (.adr (CA 0))) (aCons (mBin subI (mBin powI (mC (.int 10)) (mC (.int 12))) (mC (.int 1))) aNil)))) mSkip)
  (mRet (mCM (CA 0) (r_Ranges_between CA) (mC (.adr (CA 0))) (aCons (mVar 1) (aCons (mBin addI (mVar 1) (mF (r__law_draw CA) (aCons (mVar 0) (aCons (mC (.int 4)) aNil)))) aNil))))))))))))
def g__law_ranges (CA : Ly) : MF := body 3 (m__law_ranges CA)
def r__law_ranges (CA : Ly) : MF := ar 1 (g__law_ranges CA)
theorem sc__law_ranges : FnScope ["pen", "low", "pick"] ["pen"] (defScope s__law_ranges) := C8.fnScope_by (by decide +kernel)
theorem F__law_ranges (h : DX.Ht dat K mg base CA) : DL.FnR P w K mg base (L2.CX P w) 6 (He.fAd K ("_law_ranges", none)) (spR K CA (r__law_ranges CA)) := by
  obtain ⟨fd, FD⟩ := h.fn 23
  exact fn_all (sf_of FD sc__law_ranges fun cdv A outer s H E hr fr =>
  (sb_cons (ss_set (i := 1) (se_bin dop_subI (se_callG (df_fn fr.tk (F__law_draw (P := P) (w := w) (base := base) h) (hr.mono (k := 1) (by decide)) (h.kp 15)) (by rfl) (h.g 15) (sa_cons (se_var (i := 0)) (sa_cons se_int sa_nil))) se_int) sc__law_ranges.nd)
  (sb_cons (ss_set (i := 2) (se_callG (df_fn fr.tk (F__law_draw (P := P) (w := w) (base := base) h) (hr.mono (k := 1) (by decide)) (h.kp 15)) (by rfl) (h.g 15) (sa_cons (se_var (i := 0)) (sa_cons se_int sa_nil))) sc__law_ranges.nd)
  (sb_cons (ss_if (st_cmp (dop_eqD hr.u64) (se_var (i := 2)) se_int (by rfl)) (sb_one (ss_ret (se_cm fr.tk (h.cr 0) (h.cm 0) (F_Ranges_of (P := P) (w := w) (base := base) h) (hr.mono (k := 5) (by decide)) (se_glob (by rfl) (h.gC 0 9)) (sa_cons (se_var (i := 1)) (sa_cons (se_bin dop_addI (se_bin dop_addI (se_var (i := 1)) se_int) (se_callG (df_fn fr.tk (F__law_draw (P := P) (w := w) (base := base) h) (hr.mono (k := 1) (by decide)) (h.kp 15)) (by rfl) (h.g 15) (sa_cons (se_var (i := 0)) (sa_cons se_int sa_nil)))) (sa_cons (se_bin dop_addI (se_var (i := 1)) se_int) sa_nil)))))) sb_nil)
  (sb_cons (ss_if (st_cmp (dop_eqD hr.u64) (se_var (i := 2)) se_int (by rfl)) (sb_one (ss_ret (se_cm fr.tk (h.cr 0) (h.cm 1) (F_Ranges_between (P := P) (w := w) (base := base) h) (hr.mono (k := 5) (by decide)) (se_glob (by rfl) (h.gC 0 9)) (sa_cons se_non (sa_cons (se_var (i := 1)) sa_nil))))) sb_nil)
  (sb_cons (ss_if (st_cmp (dop_eqD hr.u64) (se_var (i := 2)) se_int (by rfl)) (sb_one (ss_ret (se_cm fr.tk (h.cr 0) (h.cm 1) (F_Ranges_between (P := P) (w := w) (base := base) h) (hr.mono (k := 5) (by decide)) (se_glob (by rfl) (h.gC 0 9)) (sa_cons (se_var (i := 1)) (sa_cons se_non sa_nil))))) sb_nil)
  (sb_cons (ss_if (st_cmp (dop_eqD hr.u64) (se_var (i := 2)) se_int (by rfl)) (sb_one (ss_ret (se_bin (dop_binC (c := 0) (h.sf 0) (h.fd 2) (h.ff 2) (F_Ranges___sub__ (P := P) (w := w) (base := base) h) (hr.mono (k := 5) (by decide))) (se_cm0 fr.tk (h.cr 0) (h.cm 2) (F_Ranges_full (P := P) (w := w) (base := base) h) (hr.mono (k := 5) (by decide)) (se_glob (by rfl) (h.gC 0 9))) (se_cm fr.tk (h.cr 0) (h.cm 0) (F_Ranges_of (P := P) (w := w) (base := base) h) (hr.mono (k := 5) (by decide)) (se_glob (by rfl) (h.gC 0 9)) (sa_cons (se_var (i := 1)) sa_nil))))) sb_nil)
  (sb_cons (ss_if (st_cmp (dop_eqD hr.u64) (se_var (i := 2)) se_int (by rfl)) (sb_one (ss_ret (se_ix (se_lst (sa_cons (se_cm0 fr.tk (h.cr 0) (h.cm 3) (F_Ranges_empty (P := P) (w := w) (base := base) h) (hr.mono (k := 5) (by decide)) (se_glob (by rfl) (h.gC 0 9))) (sa_cons (se_cm0 fr.tk (h.cr 0) (h.cm 2) (F_Ranges_full (P := P) (w := w) (base := base) h) (hr.mono (k := 5) (by decide)) (se_glob (by rfl) (h.gC 0 9))) sa_nil))) (se_callG (df_fn fr.tk (F__law_draw (P := P) (w := w) (base := base) h) (hr.mono (k := 1) (by decide)) (h.kp 15)) (by rfl) (h.g 15) (sa_cons (se_var (i := 0)) (sa_cons se_int sa_nil)))))) sb_nil)
  (sb_cons (ss_if (st_cmp (dop_eqD hr.u64) (se_var (i := 2)) se_int (by rfl)) (sb_one (ss_ret (se_bin (dop_binC (c := 0) (h.sf 0) (h.fd 0) (h.ff 0) (F_Ranges___or__ (P := P) (w := w) (base := base) h) (hr.mono (k := 5) (by decide))) (se_cm fr.tk (h.cr 0) (h.cm 1) (F_Ranges_between (P := P) (w := w) (base := base) h) (hr.mono (k := 5) (by decide)) (se_glob (by rfl) (h.gC 0 9)) (sa_cons (se_var (i := 1)) (sa_cons (se_bin dop_addI (se_var (i := 1)) (se_callG (df_fn fr.tk (F__law_draw (P := P) (w := w) (base := base) h) (hr.mono (k := 1) (by decide)) (h.kp 15)) (by rfl) (h.g 15) (sa_cons (se_var (i := 0)) (sa_cons se_int sa_nil)))) sa_nil))) (se_cm fr.tk (h.cr 0) (h.cm 0) (F_Ranges_of (P := P) (w := w) (base := base) h) (hr.mono (k := 5) (by decide)) (se_glob (by rfl) (h.gC 0 9)) (sa_cons (se_bin dop_subI (se_bin dop_powI se_int se_int) se_int) sa_nil))))) sb_nil)
  (sb_one (ss_ret (se_cm fr.tk (h.cr 0) (h.cm 1) (F_Ranges_between (P := P) (w := w) (base := base) h) (hr.mono (k := 5) (by decide)) (se_glob (by rfl) (h.gC 0 9)) (sa_cons (se_var (i := 1)) (sa_cons (se_bin dop_addI (se_var (i := 1)) (se_callG (df_fn fr.tk (F__law_draw (P := P) (w := w) (base := base) h) (hr.mono (k := 1) (by decide)) (h.kp 15)) (by rfl) (h.g 15) (sa_cons (se_var (i := 0)) (sa_cons se_int sa_nil)))) sa_nil)))))))))))))) (FD.bindsN fun _ _ _ _ _ _ us hl => match us, hl with | [_], _ => rfl)
abbrev s__law_leaf : Stmt := top 21
def m__law_leaf (CA : Ly) : MS :=
  (mSeq (mAsg (mBin ixD (mVar 1) (mF (r__law_draw CA) (aCons (mVar 0) (aCons (mCB (un1 lenD) (aCons (mVar 1) aNil)) aNil)))) (gN 2))
  (mSeq (mAsg (mF (r__law_draw CA) (aCons (mVar 0) (aCons (mC (.int 8)) aNil))) (gN 3))
  (mSeq (mIfS (mTest (mBin eqD (mVar 3) (mC (.int 0)))) (mRet (mTup (aCons (mC (.str "missing")) (aCons (mVar 2) aNil)))) mSkip)
  (mSeq (mIfS (mTest (mBin eqD (mVar 3) (mC (.int 1)))) (mRet (mBin ixD (mLst (aCons (mTup (aCons (mC (.str "always")) aNil)) (aCons (mTup (aCons (mC (.str "never")) aNil)) aNil))) (mF (r__law_draw CA) (aCons (mVar 0) (aCons (mC (.int 2)) aNil))))) mSkip)
  (mRet (mTup (aCons (mC (.str "within")) (aCons (mVar 2) (aCons (mUn (fldD "parts" [0]) (mF (r__law_ranges CA) (aCons (mVar 0) aNil))) aNil)))))))))
def g__law_leaf (CA : Ly) : MF := body 4 (m__law_leaf CA)
def r__law_leaf (CA : Ly) : MF := ar 2 (g__law_leaf CA)
theorem sc__law_leaf : FnScope ["pen", "columns", "column", "pick"] ["pen", "columns"] (defScope s__law_leaf) := C8.fnScope_by (by decide +kernel)
theorem F__law_leaf (h : DX.Ht dat K mg base CA) : DL.FnR P w K mg base (L2.CX P w) 7 (He.fAd K ("_law_leaf", none)) (spR K CA (r__law_leaf CA)) := by
  obtain ⟨fd, FD⟩ := h.fn 24
  exact fn_all (sf_of FD sc__law_leaf fun cdv A outer s H E hr fr =>
  (sb_cons (ss_set (i := 2) (se_ix (se_var (i := 1)) (se_callG (df_fn fr.tk (F__law_draw (P := P) (w := w) (base := base) h) (hr.mono (k := 1) (by decide)) (h.kp 15)) (by rfl) (h.g 15) (sa_cons (se_var (i := 0)) (sa_cons (se_callB dc_len (by rfl) (h.b 0) (by rfl) (sa_cons (se_var (i := 1)) sa_nil)) sa_nil)))) sc__law_leaf.nd)
  (sb_cons (ss_set (i := 3) (se_callG (df_fn fr.tk (F__law_draw (P := P) (w := w) (base := base) h) (hr.mono (k := 1) (by decide)) (h.kp 15)) (by rfl) (h.g 15) (sa_cons (se_var (i := 0)) (sa_cons se_int sa_nil))) sc__law_leaf.nd)
  (sb_cons (ss_if (st_cmp (dop_eqD hr.u64) (se_var (i := 3)) se_int (by rfl)) (sb_one (ss_ret (se_tup (sa_cons se_str (sa_cons (se_var (i := 2)) sa_nil))))) sb_nil)
  (sb_cons (ss_if (st_cmp (dop_eqD hr.u64) (se_var (i := 3)) se_int (by rfl)) (sb_one (ss_ret (se_ix (se_lst (sa_cons (se_tup (sa_cons se_str sa_nil)) (sa_cons (se_tup (sa_cons se_str sa_nil)) sa_nil))) (se_callG (df_fn fr.tk (F__law_draw (P := P) (w := w) (base := base) h) (hr.mono (k := 1) (by decide)) (h.kp 15)) (by rfl) (h.g 15) (sa_cons (se_var (i := 0)) (sa_cons se_int sa_nil)))))) sb_nil)
  (sb_one (ss_ret (se_tup (sa_cons se_str (sa_cons (se_var (i := 2)) (sa_cons (se_fld (se_callG (df_fn fr.tk (F__law_ranges (P := P) (w := w) (base := base) h) (hr.mono (k := 6) (by decide)) (h.kp 16)) (by rfl) (h.g 16) (sa_cons (se_var (i := 0)) sa_nil)) (h.na [0] "parts")) sa_nil))))))))))) (FD.bindsN fun _ _ _ _ _ _ us hl => match us, hl with | [_, _], _ => rfl)
abbrev s__law_set_of : Stmt := top 22
def m__law_set_of (CA : Ly) : MS :=
  (mSeq (mAsg (mCM (CA 0) (r_Ranges_empty CA) (mC (.adr (CA 0))) aNil) (gN 1))
  (mSeq (mFor (iSeq (mVar 0)) (gTup [(gN 2), (gN 3)]) (mAsg (mBin (fun x y bx => noX (binC 0 (r_Ranges___or__ CA) x y bx)) (mVar 1) (mCM (CA 0) (r_Ranges_between CA) (mC (.adr (CA 0))) (aCons (mVar 2) (aCons (mVar 3) aNil)))) (gN 1)))
  (mRet (mVar 1))))
def g__law_set_of (CA : Ly) : MF := body 4 (m__law_set_of CA)
def r__law_set_of (CA : Ly) : MF := ar 1 (g__law_set_of CA)
theorem sc__law_set_of : FnScope ["parts", "found", "low", "high"] ["parts"] (defScope s__law_set_of) := C8.fnScope_by (by decide +kernel)
theorem F__law_set_of (h : DX.Ht dat K mg base CA) : DL.FnR P w K mg base (L2.CX P w) 6 (He.fAd K ("_law_set_of", none)) (spR K CA (r__law_set_of CA)) := by
  obtain ⟨fd, FD⟩ := h.fn 25
  exact fn_all (sf_of FD sc__law_set_of fun cdv A outer s H E hr fr =>
  (sb_cons (ss_set (i := 1) (se_cm0 fr.tk (h.cr 0) (h.cm 3) (F_Ranges_empty (P := P) (w := w) (base := base) h) (hr.mono (k := 5) (by decide)) (se_glob (by rfl) (h.gC 0 9))) sc__law_set_of.nd)
  (sb_cons (ss_for fr (si_seq (se_var (i := 0))) (sg_tup (gs := [(gN 2), (gN 3)]) fr.calm (sgs_cons (sg_name (i := 2) sc__law_set_of.nd) (sgs_cons (sg_name (i := 3) sc__law_set_of.nd) sgs_nil))) (sb_one (ss_set (i := 1) (se_bin (dop_binC (c := 0) (h.sf 0) (h.fd 0) (h.ff 0) (F_Ranges___or__ (P := P) (w := w) (base := base) h) (hr.mono (k := 5) (by decide))) (se_var (i := 1)) (se_cm fr.tk (h.cr 0) (h.cm 1) (F_Ranges_between (P := P) (w := w) (base := base) h) (hr.mono (k := 5) (by decide)) (se_glob (by rfl) (h.gC 0 9)) (sa_cons (se_var (i := 2)) (sa_cons (se_var (i := 3)) sa_nil)))) sc__law_set_of.nd)))
  (sb_one (ss_ret (se_var (i := 1))))))) (FD.bindsN fun _ _ _ _ _ _ us hl => match us, hl with | [_], _ => rfl)
abbrev s__law_numbered : Stmt := top 23
def m__law_numbered (CA : Ly) (rc : MF) : MS :=
  (mSeq (mIfS (mOr (mTest (mBin eqD (mBin ixD (mVar 0) (mC (.int 0))) (mC (.str "always")))) (mTest (mBin eqD (mBin ixD (mVar 0) (mC (.int 0))) (mC (.str "never"))))) (mRet (mBin mulI (mC (.int 2)) (mCB (un1 intD) (aCons (mBin eqD (mBin ixD (mVar 0) (mC (.int 0))) (mC (.str "always"))) aNil)))) mSkip)
  (mSeq (mIfS (mTest (mBin eqD (mBin ixD (mVar 0) (mC (.int 0))) (mC (.str "missing")))) (mRet (mBin mulI (mC (.int 2)) (mCB (un1 intD) (aCons (mUn isN (mBin dgD (mVar 1) (mBin ixD (mVar 0) (mC (.int 1))))) aNil)))) mSkip)
  (mSeq (mIfS (mTest (mBin eqD (mBin ixD (mVar 0) (mC (.int 0))) (mC (.str "not")))) (mRet (mBin subI (mC (.int 2)) (mF rc (aCons (mBin ixD (mVar 0) (mC (.int 1))) (aCons (mVar 1) aNil))))) mSkip)
  (mSeq (mIfS (mTest (mBin eqD (mBin ixD (mVar 0) (mC (.int 0))) (mC (.str "and")))) (mRet (mCB (un2 min2) (aCons (mF rc (aCons (mBin ixD (mVar 0) (mC (.int 1))) (aCons (mVar 1) aNil))) (aCons (mF rc (aCons (mBin ixD (mVar 0) (mC (.int 2))) (aCons (mVar 1) aNil))) aNil)))) mSkip)
  (mSeq (mIfS (mTest (mBin eqD (mBin ixD (mVar 0) (mC (.int 0))) (mC (.str "or")))) (mRet (mCB (un2 max2) (aCons (mF rc (aCons (mBin ixD (mVar 0) (mC (.int 1))) (aCons (mVar 1) aNil))) (aCons (mF rc (aCons (mBin ixD (mVar 0) (mC (.int 2))) (aCons (mVar 1) aNil))) aNil)))) mSkip)
  (mSeq (mAsg (mBin dgD (mVar 1) (mBin ixD (mVar 0) (mC (.int 1)))) (gN 2))
  (mSeq (mIfS (mTest (mUn isN (mVar 2))) (mRet (mC (.int 1))) mSkip)
  (mSeq (mFor (iSeq (mBin ixD (mVar 0) (mC (.int 2)))) (gTup [(gN 3), (gN 4)]) (mIfS (mAnd (mOr (mTest (mUn isN (mVar 3))) (mTest (mBin leI (mVar 3) (mVar 2)))) (mOr (mTest (mUn isN (mVar 4))) (mTest (mBin leI (mVar 2) (mVar 4))))) (mRet (mC (.int 2))) mSkip))
  (mRet (mC (.int 0)))))))))))
def r__law_numbered (CA : Ly) : Nat → MF
  | 0 => ar 2 (body 5 mStk)
  | j + 1 => ar 2 (body 5 (m__law_numbered CA (r__law_numbered CA j)))
theorem sc__law_numbered : FnScope ["tree", "values", "value", "low", "high"] ["tree", "values"] (defScope s__law_numbered) := C8.fnScope_by (by decide +kernel)
theorem F__law_numbered (h : DX.Ht dat K mg base CA) : ∀ j : Nat, DL.FnR P w K mg base (L2.CX P w) (1 + j) (He.fAd K ("_law_numbered", none)) (spR K CA (r__law_numbered CA j))
  | 0 => by
    obtain ⟨fd, FD⟩ := h.fn 26
    exact fn_all (sf_of (k := 0) FD sc__law_numbered fun cdv A outer s H E hr fr => sb_stk) (FD.bindsN fun _ _ _ _ _ _ us hl => match us, hl with | [_, _], _ => rfl)
  | j + 1 => by
    have ih := F__law_numbered h j
    obtain ⟨fd, FD⟩ := h.fn 26
    exact fn_all (sf_of (k := 1 + j) FD sc__law_numbered fun cdv A outer s H E hr fr =>
  (sb_cons (ss_if (SW.st' (sw_or (st_cmp (dop_eqD hr.u64) (se_ix (se_var (i := 0)) se_int) se_str (by rfl)) (sw_or1 (st_cmp (dop_eqD hr.u64) (se_ix (se_var (i := 0)) se_int) se_str (by rfl))))) (sb_one (ss_ret (se_bin dop_mulI se_int (se_callTy dc_int (by rfl) (h.b 2) (by rfl) (sa_cons (se_cmp (dop_eqD hr.u64) (se_ix (se_var (i := 0)) se_int) se_str (by rfl)) sa_nil))))) sb_nil)
  (sb_cons (ss_if (st_cmp (dop_eqD hr.u64) (se_ix (se_var (i := 0)) se_int) se_str (by rfl)) (sb_one (ss_ret (se_bin dop_mulI se_int (se_callTy dc_int (by rfl) (h.b 2) (by rfl) (sa_cons (se_isN (se_dget hr.u64 (se_var (i := 1)) (se_ix (se_var (i := 0)) se_int))) sa_nil))))) sb_nil)
  (sb_cons (ss_if (st_cmp (dop_eqD hr.u64) (se_ix (se_var (i := 0)) se_int) se_str (by rfl)) (sb_one (ss_ret (se_bin dop_subI se_int (se_callG (df_fn fr.tk ih (hr.mono (k := 1 + j) (by omega)) (h.kp 19)) (by rfl) (h.g 19) (sa_cons (se_ix (se_var (i := 0)) se_int) (sa_cons (se_var (i := 1)) sa_nil)))))) sb_nil)
  (sb_cons (ss_if (st_cmp (dop_eqD hr.u64) (se_ix (se_var (i := 0)) se_int) se_str (by rfl)) (sb_one (ss_ret (se_callB (dc_min2 fr.calm) (by rfl) (h.b 8) (by rfl) (sa_cons (se_callG (df_fn fr.tk ih (hr.mono (k := 1 + j) (by omega)) (h.kp 19)) (by rfl) (h.g 19) (sa_cons (se_ix (se_var (i := 0)) se_int) (sa_cons (se_var (i := 1)) sa_nil))) (sa_cons (se_callG (df_fn fr.tk ih (hr.mono (k := 1 + j) (by omega)) (h.kp 19)) (by rfl) (h.g 19) (sa_cons (se_ix (se_var (i := 0)) se_int) (sa_cons (se_var (i := 1)) sa_nil))) sa_nil))))) sb_nil)
  (sb_cons (ss_if (st_cmp (dop_eqD hr.u64) (se_ix (se_var (i := 0)) se_int) se_str (by rfl)) (sb_one (ss_ret (se_callB (dc_max2 fr.calm) (by rfl) (h.b 7) (by rfl) (sa_cons (se_callG (df_fn fr.tk ih (hr.mono (k := 1 + j) (by omega)) (h.kp 19)) (by rfl) (h.g 19) (sa_cons (se_ix (se_var (i := 0)) se_int) (sa_cons (se_var (i := 1)) sa_nil))) (sa_cons (se_callG (df_fn fr.tk ih (hr.mono (k := 1 + j) (by omega)) (h.kp 19)) (by rfl) (h.g 19) (sa_cons (se_ix (se_var (i := 0)) se_int) (sa_cons (se_var (i := 1)) sa_nil))) sa_nil))))) sb_nil)
  (sb_cons (ss_set (i := 2) (se_dget hr.u64 (se_var (i := 1)) (se_ix (se_var (i := 0)) se_int)) sc__law_numbered.nd)
  (sb_cons (ss_if (st_isN (se_var (i := 2))) (sb_one (ss_ret se_int)) sb_nil)
  (sb_cons (ss_for fr (si_seq (se_ix (se_var (i := 0)) se_int)) (sg_tup (gs := [(gN 3), (gN 4)]) fr.calm (sgs_cons (sg_name (i := 3) sc__law_numbered.nd) (sgs_cons (sg_name (i := 4) sc__law_numbered.nd) sgs_nil))) (sb_one (ss_if (SW.st' (sw_and (SW.st' (sw_or (st_isN (se_var (i := 3))) (sw_or1 (st_cmp dop_leI (se_var (i := 3)) (se_var (i := 2)) (by rfl))))) (sw_and1 (SW.st' (sw_or (st_isN (se_var (i := 4))) (sw_or1 (st_cmp dop_leI (se_var (i := 2)) (se_var (i := 4)) (by rfl)))))))) (sb_one (ss_ret se_int)) sb_nil)))
  (sb_one (ss_ret se_int))))))))))) (FD.bindsN fun _ _ _ _ _ _ us hl => match us, hl with | [_, _], _ => rfl)
abbrev s__law_grown : Stmt := top 24
def m__law_grown (CA : Ly) (rc : MF) : MS :=
  (mSeq (mIfS (mOr (mTest (mBin ltI (mVar 2) (mC (.int 2)))) (mTest (mBin ltI (mVar 3) (mC (.int 2))))) (mSeq (mAsg (mF (r__law_leaf CA) (aCons (mVar 0) (aCons (mVar 1) aNil))) (gN 7))
   (mSeq (mIfS (mAnd (mTest (mBin gtI (mVar 3) (mC (.int 2)))) (mTest (mBin eqD (mF (r__law_draw CA) (aCons (mVar 0) (aCons (mC (.int 3)) aNil))) (mC (.int 0))))) (mRet (mTup (aCons (mC (.str "not")) (aCons (mVar 7) aNil)))) mSkip)
   (mRet (mVar 7)))) mSkip)
  (mSeq (mAsg (mF (r__law_draw CA) (aCons (mVar 0) (aCons (mC (.int 9)) aNil))) (gN 4))
  (mSeq (mIfS (mTest (mBin eqD (mVar 4) (mC (.int 0)))) (mRet (mTup (aCons (mC (.str "not")) (aCons (mF rc (aCons (mVar 0) (aCons (mVar 1) (aCons (mVar 2) (aCons (mBin subI (mVar 3) (mC (.int 1))) aNil))))) aNil)))) mSkip)
  (mSeq (mAsg (mBin ixD (mLst (aCons (mC (.int 1)) (aCons (mBin subI (mVar 2) (mC (.int 1))) (aCons (mBin divW (mVar 2) (mC (.int 2))) (aCons (mBin addI (mC (.int 1)) (mF (r__law_draw CA) (aCons (mVar 0) (aCons (mBin subI (mVar 2) (mC (.int 1))) aNil)))) aNil))))) (mF (r__law_draw CA) (aCons (mVar 0) (aCons (mC (.int 4)) aNil)))) (gN 5))
  (mSeq (mAsg (mF rc (aCons (mVar 0) (aCons (mVar 1) (aCons (mVar 5) (aCons (mBin subI (mVar 3) (mC (.int 1))) aNil))))) (gN 6))
  (mRet (mTup (aCons (mBin ixD (mLst (aCons (mC (.str "and")) (aCons (mC (.str "or")) aNil))) (mBin modI (mVar 4) (mC (.int 2)))) (aCons (mVar 6) (aCons (mF rc (aCons (mVar 0) (aCons (mVar 1) (aCons (mBin subI (mVar 2) (mVar 5)) (aCons (mBin subI (mVar 3) (mC (.int 1))) aNil))))) aNil))))))))))
def r__law_grown (CA : Ly) : Nat → MF
  | 0 => ar 4 (body 8 mStk)
  | j + 1 => ar 4 (body 8 (m__law_grown CA (r__law_grown CA j)))
theorem sc__law_grown : FnScope ["pen", "columns", "left", "deep", "pick", "one", "first", "tree"] ["pen", "columns", "left", "deep"] (defScope s__law_grown) := C8.fnScope_by (by decide +kernel)
theorem F__law_grown (h : DX.Ht dat K mg base CA) : ∀ j : Nat, DL.FnR P w K mg base (L2.CX P w) (8 + j) (He.fAd K ("_law_grown", none)) (spR K CA (r__law_grown CA j))
  | 0 => by
    obtain ⟨fd, FD⟩ := h.fn 27
    exact fn_all (sf_of (k := 7) FD sc__law_grown fun cdv A outer s H E hr fr => sb_stk) (FD.bindsN fun _ _ _ _ _ _ us hl => match us, hl with | [_, _, _, _], _ => rfl)
  | j + 1 => by
    have ih := F__law_grown h j
    obtain ⟨fd, FD⟩ := h.fn 27
    exact fn_all (sf_of (k := 8 + j) FD sc__law_grown fun cdv A outer s H E hr fr =>
  (sb_cons (ss_if (SW.st' (sw_or (st_cmp dop_ltI (se_var (i := 2)) se_int (by rfl)) (sw_or1 (st_cmp dop_ltI (se_var (i := 3)) se_int (by rfl))))) (sb_cons (ss_set (i := 7) (se_callG (df_fn fr.tk (F__law_leaf (P := P) (w := w) (base := base) h) (hr.mono (k := 7) (by omega)) (h.kp 17)) (by rfl) (h.g 17) (sa_cons (se_var (i := 0)) (sa_cons (se_var (i := 1)) sa_nil))) sc__law_grown.nd)
   (sb_cons (ss_if (SW.st' (sw_and (st_cmp dop_gtI (se_var (i := 3)) se_int (by rfl)) (sw_and1 (st_cmp (dop_eqD hr.u64) (se_callG (df_fn fr.tk (F__law_draw (P := P) (w := w) (base := base) h) (hr.mono (k := 1) (by omega)) (h.kp 15)) (by rfl) (h.g 15) (sa_cons (se_var (i := 0)) (sa_cons se_int sa_nil))) se_int (by rfl))))) (sb_one (ss_ret (se_tup (sa_cons se_str (sa_cons (se_var (i := 7)) sa_nil))))) sb_nil)
   (sb_one (ss_ret (se_var (i := 7)))))) sb_nil)
  (sb_cons (ss_set (i := 4) (se_callG (df_fn fr.tk (F__law_draw (P := P) (w := w) (base := base) h) (hr.mono (k := 1) (by omega)) (h.kp 15)) (by rfl) (h.g 15) (sa_cons (se_var (i := 0)) (sa_cons se_int sa_nil))) sc__law_grown.nd)
  (sb_cons (ss_if (st_cmp (dop_eqD hr.u64) (se_var (i := 4)) se_int (by rfl)) (sb_one (ss_ret (se_tup (sa_cons se_str (sa_cons (se_callG (df_fn fr.tk ih (hr.mono (k := 8 + j) (by omega)) (h.kp 20)) (by rfl) (h.g 20) (sa_cons (se_var (i := 0)) (sa_cons (se_var (i := 1)) (sa_cons (se_var (i := 2)) (sa_cons (se_bin dop_subI (se_var (i := 3)) se_int) sa_nil))))) sa_nil))))) sb_nil)
  (sb_cons (ss_set (i := 5) (se_ix (se_lst (sa_cons se_int (sa_cons (se_bin dop_subI (se_var (i := 2)) se_int) (sa_cons (se_bin dop_divW (se_var (i := 2)) se_int) (sa_cons (se_bin dop_addI se_int (se_callG (df_fn fr.tk (F__law_draw (P := P) (w := w) (base := base) h) (hr.mono (k := 1) (by omega)) (h.kp 15)) (by rfl) (h.g 15) (sa_cons (se_var (i := 0)) (sa_cons (se_bin dop_subI (se_var (i := 2)) se_int) sa_nil)))) sa_nil))))) (se_callG (df_fn fr.tk (F__law_draw (P := P) (w := w) (base := base) h) (hr.mono (k := 1) (by omega)) (h.kp 15)) (by rfl) (h.g 15) (sa_cons (se_var (i := 0)) (sa_cons se_int sa_nil)))) sc__law_grown.nd)
  (sb_cons (ss_set (i := 6) (se_callG (df_fn fr.tk ih (hr.mono (k := 8 + j) (by omega)) (h.kp 20)) (by rfl) (h.g 20) (sa_cons (se_var (i := 0)) (sa_cons (se_var (i := 1)) (sa_cons (se_var (i := 5)) (sa_cons (se_bin dop_subI (se_var (i := 3)) se_int) sa_nil))))) sc__law_grown.nd)
  (sb_one (ss_ret (se_tup (sa_cons (se_ix (se_lst (sa_cons se_str (sa_cons se_str sa_nil))) (se_bin dop_modI (se_var (i := 4)) se_int)) (sa_cons (se_var (i := 6)) (sa_cons (se_callG (df_fn fr.tk ih (hr.mono (k := 8 + j) (by omega)) (h.kp 20)) (by rfl) (h.g 20) (sa_cons (se_var (i := 0)) (sa_cons (se_var (i := 1)) (sa_cons (se_bin dop_subI (se_var (i := 2)) (se_var (i := 5))) (sa_cons (se_bin dop_subI (se_var (i := 3)) se_int) sa_nil))))) sa_nil)))))))))))) (FD.bindsN fun _ _ _ _ _ _ us hl => match us, hl with | [_, _, _, _], _ => rfl)
abbrev s__law_built : Stmt := top 25
def m__law_built (CA : Ly) (rc : MF) : MS :=
  (mSeq (mIfS (mTest (mBin eqD (mBin ixD (mVar 0) (mC (.int 0))) (mC (.str "always")))) (mRet (mCM (CA 1) (r_Filter_always CA) (mC (.adr (CA 1))) aNil)) mSkip)
  (mSeq (mIfS (mTest (mBin eqD (mBin ixD (mVar 0) (mC (.int 0))) (mC (.str "never")))) (mRet (mCM (CA 1) (r_Filter_never CA) (mC (.adr (CA 1))) aNil)) mSkip)
  (mSeq (mIfS (mTest (mBin eqD (mBin ixD (mVar 0) (mC (.int 0))) (mC (.str "missing")))) (mRet (mCM (CA 1) (r_Filter_missing CA) (mC (.adr (CA 1))) (aCons (mBin ixD (mVar 0) (mC (.int 1))) aNil))) mSkip)
  (mSeq (mIfS (mTest (mBin eqD (mBin ixD (mVar 0) (mC (.int 0))) (mC (.str "within")))) (mRet (mCM (CA 1) (r_Filter_within CA) (mC (.adr (CA 1))) (aCons (mBin ixD (mVar 0) (mC (.int 1))) (aCons (mF (r__law_set_of CA) (aCons (mBin ixD (mVar 0) (mC (.int 2))) aNil)) aNil)))) mSkip)
  (mSeq (mIfS (mTest (mBin eqD (mBin ixD (mVar 0) (mC (.int 0))) (mC (.str "not")))) (mRet (mUn (fun x bx => noX (unC 1 (r_Filter___invert__ CA) x bx)) (mF rc (aCons (mBin ixD (mVar 0) (mC (.int 1))) aNil)))) mSkip)
  (mSeq (mIfS (mTest (mBin eqD (mBin ixD (mVar 0) (mC (.int 0))) (mC (.str "and")))) (mRet (mBin (fun x y bx => noX (binC 1 (r_Filter___and__ CA) x y bx)) (mF rc (aCons (mBin ixD (mVar 0) (mC (.int 1))) aNil)) (mF rc (aCons (mBin ixD (mVar 0) (mC (.int 2))) aNil)))) mSkip)
  (mRet (mBin (fun x y bx => noX (binC 1 (r_Filter___or__ CA) x y bx)) (mF rc (aCons (mBin ixD (mVar 0) (mC (.int 1))) aNil)) (mF rc (aCons (mBin ixD (mVar 0) (mC (.int 2))) aNil))))))))))
def r__law_built (CA : Ly) : Nat → MF
  | 0 => ar 1 (body 1 mStk)
  | j + 1 => ar 1 (body 1 (m__law_built CA (r__law_built CA j)))
theorem sc__law_built : FnScope ["tree"] ["tree"] (defScope s__law_built) := C8.fnScope_by (by decide +kernel)
theorem F__law_built (h : DX.Ht dat K mg base CA) : ∀ j : Nat, DL.FnR P w K mg base (L2.CX P w) (29 + j) (He.fAd K ("_law_built", none)) (spR K CA (r__law_built CA j))
  | 0 => by
    obtain ⟨fd, FD⟩ := h.fn 28
    exact fn_all (sf_of (k := 28) FD sc__law_built fun cdv A outer s H E hr fr => sb_stk) (FD.bindsN fun _ _ _ _ _ _ us hl => match us, hl with | [_], _ => rfl)
  | j + 1 => by
    have ih := F__law_built h j
    obtain ⟨fd, FD⟩ := h.fn 28
    exact fn_all (sf_of (k := 29 + j) FD sc__law_built fun cdv A outer s H E hr fr =>
  (sb_cons (ss_if (st_cmp (dop_eqD hr.u64) (se_ix (se_var (i := 0)) se_int) se_str (by rfl)) (sb_one (ss_ret (se_cm0 fr.tk (h.cr 1) (h.cm 6) (F_Filter_always (P := P) (w := w) (base := base) h) (hr.mono (k := 28) (by omega)) (se_glob (by rfl) (h.gC 1 13))))) sb_nil)
  (sb_cons (ss_if (st_cmp (dop_eqD hr.u64) (se_ix (se_var (i := 0)) se_int) se_str (by rfl)) (sb_one (ss_ret (se_cm0 fr.tk (h.cr 1) (h.cm 7) (F_Filter_never (P := P) (w := w) (base := base) h) (hr.mono (k := 28) (by omega)) (se_glob (by rfl) (h.gC 1 13))))) sb_nil)
  (sb_cons (ss_if (st_cmp (dop_eqD hr.u64) (se_ix (se_var (i := 0)) se_int) se_str (by rfl)) (sb_one (ss_ret (se_cm fr.tk (h.cr 1) (h.cm 5) (F_Filter_missing (P := P) (w := w) (base := base) h) (hr.mono (k := 28) (by omega)) (se_glob (by rfl) (h.gC 1 13)) (sa_cons (se_ix (se_var (i := 0)) se_int) sa_nil)))) sb_nil)
  (sb_cons (ss_if (st_cmp (dop_eqD hr.u64) (se_ix (se_var (i := 0)) se_int) se_str (by rfl)) (sb_one (ss_ret (se_cm fr.tk (h.cr 1) (h.cm 4) (F_Filter_within (P := P) (w := w) (base := base) h) (hr.mono (k := 28) (by omega)) (se_glob (by rfl) (h.gC 1 13)) (sa_cons (se_ix (se_var (i := 0)) se_int) (sa_cons (se_callG (df_fn fr.tk (F__law_set_of (P := P) (w := w) (base := base) h) (hr.mono (k := 6) (by omega)) (h.kp 18)) (by rfl) (h.g 18) (sa_cons (se_ix (se_var (i := 0)) se_int) sa_nil)) sa_nil))))) sb_nil)
  (sb_cons (ss_if (st_cmp (dop_eqD hr.u64) (se_ix (se_var (i := 0)) se_int) se_str (by rfl)) (sb_one (ss_ret (se_un (dun_invC (c := 1) (h.fd 5) (h.ff 5) (F_Filter___invert__ (P := P) (w := w) (base := base) h) (hr.mono (k := 28) (by omega))) (se_callG (df_fn fr.tk ih (hr.mono (k := 29 + j) (by omega)) (h.kp 21)) (by rfl) (h.g 21) (sa_cons (se_ix (se_var (i := 0)) se_int) sa_nil))))) sb_nil)
  (sb_cons (ss_if (st_cmp (dop_eqD hr.u64) (se_ix (se_var (i := 0)) se_int) se_str (by rfl)) (sb_one (ss_ret (se_bin (dop_binC (c := 1) (h.sf 1) (h.fd 3) (h.ff 3) (F_Filter___and__ (P := P) (w := w) (base := base) h) (hr.mono (k := 28) (by omega))) (se_callG (df_fn fr.tk ih (hr.mono (k := 29 + j) (by omega)) (h.kp 21)) (by rfl) (h.g 21) (sa_cons (se_ix (se_var (i := 0)) se_int) sa_nil)) (se_callG (df_fn fr.tk ih (hr.mono (k := 29 + j) (by omega)) (h.kp 21)) (by rfl) (h.g 21) (sa_cons (se_ix (se_var (i := 0)) se_int) sa_nil))))) sb_nil)
  (sb_one (ss_ret (se_bin (dop_binC (c := 1) (h.sf 1) (h.fd 4) (h.ff 4) (F_Filter___or__ (P := P) (w := w) (base := base) h) (hr.mono (k := 28) (by omega))) (se_callG (df_fn fr.tk ih (hr.mono (k := 29 + j) (by omega)) (h.kp 21)) (by rfl) (h.g 21) (sa_cons (se_ix (se_var (i := 0)) se_int) sa_nil)) (se_callG (df_fn fr.tk ih (hr.mono (k := 29 + j) (by omega)) (h.kp 21)) (by rfl) (h.g 21) (sa_cons (se_ix (se_var (i := 0)) se_int) sa_nil)))))))))))) (FD.bindsN fun _ _ _ _ _ _ us hl => match us, hl with | [_], _ => rfl)
abbrev s__law_columns : Stmt := top 26
def m__law_columns (CA : Ly) (rc : MF) : MS :=
  (mSeq (mIfS (mOr (mTest (mBin eqD (mBin ixD (mVar 0) (mC (.int 0))) (mC (.str "missing")))) (mTest (mBin eqD (mBin ixD (mVar 0) (mC (.int 0))) (mC (.str "within"))))) (mRet (mLst (aCons (mBin ixD (mVar 0) (mC (.int 1))) aNil))) mSkip)
  (mSeq (mAsg (mLst aNil) (gN 1))
  (mSeq (mIfS (mTest (mBin (inS true) (mBin ixD (mVar 0) (mC (.int 0))) (mTup (aCons (mC (.str "always")) (aCons (mC (.str "never")) aNil))))) (mFor (iSeq (mSlice (mVar 0) (pSome (mC (.int 1))) pNone)) (gN 2) (mAsg (mBin addL (mVar 1) (mF rc (aCons (mVar 2) aNil))) (gN 1))) mSkip)
  (mRet (mVar 1)))))
def r__law_columns (CA : Ly) : Nat → MF
  | 0 => ar 1 (body 3 mStk)
  | j + 1 => ar 1 (body 3 (m__law_columns CA (r__law_columns CA j)))
theorem sc__law_columns : FnScope ["tree", "found", "part"] ["tree"] (defScope s__law_columns) := C8.fnScope_by (by decide +kernel)
theorem F__law_columns (h : DX.Ht dat K mg base CA) : ∀ j : Nat, DL.FnR P w K mg base (L2.CX P w) (1 + j) (He.fAd K ("_law_columns", none)) (spR K CA (r__law_columns CA j))
  | 0 => by
    obtain ⟨fd, FD⟩ := h.fn 29
    exact fn_all (sf_of (k := 0) FD sc__law_columns fun cdv A outer s H E hr fr => sb_stk) (FD.bindsN fun _ _ _ _ _ _ us hl => match us, hl with | [_], _ => rfl)
  | j + 1 => by
    have ih := F__law_columns h j
    obtain ⟨fd, FD⟩ := h.fn 29
    exact fn_all (sf_of (k := 1 + j) FD sc__law_columns fun cdv A outer s H E hr fr =>
  (sb_cons (ss_if (SW.st' (sw_or (st_cmp (dop_eqD hr.u64) (se_ix (se_var (i := 0)) se_int) se_str (by rfl)) (sw_or1 (st_cmp (dop_eqD hr.u64) (se_ix (se_var (i := 0)) se_int) se_str (by rfl))))) (sb_one (ss_ret (se_lst (sa_cons (se_ix (se_var (i := 0)) se_int) sa_nil)))) sb_nil)
  (sb_cons (ss_set (i := 1) (se_lst sa_nil) sc__law_columns.nd)
  (sb_cons (ss_if (st_cmp dop_notInS (se_ix (se_var (i := 0)) se_int) (se_tup (sa_cons se_str (sa_cons se_str sa_nil))) (by rfl)) (sb_one (ss_for fr (si_seq (se_slice (se_var (i := 0)) (so_some se_int) so_none)) (sg_name (i := 2) sc__law_columns.nd) (sb_one (ss_set (i := 1) (se_bin dop_addL (se_var (i := 1)) (se_callG (df_fn fr.tk ih (hr.mono (k := 1 + j) (by omega)) (h.kp 22)) (by rfl) (h.g 22) (sa_cons (se_var (i := 2)) sa_nil))) sc__law_columns.nd)))) sb_nil)
  (sb_one (ss_ret (se_var (i := 1)))))))) (FD.bindsN fun _ _ _ _ _ _ us hl => match us, hl with | [_], _ => rfl)
abbrev s__law_values : Stmt := top 27
def m__law_values (CA : Ly) : MS :=
  (mSeq (mBox (mDisp1 (.inr "zz") (mC (.int 5))) 2)
  (mSeq (mFor (iSeq (mVar 1)) (gN 3) (mSeq (mAsg (mF (r__law_draw CA) (aCons (mVar 0) (aCons (mC (.int 6)) aNil))) (gN 4))
   (mSeq (mAsg (mBin subI (mF (r__law_draw CA) (aCons (mVar 0) (aCons (mC (.int 17)) aNil))) (mC (.int 8))) (gN 5))
   (mSeq (mIfS (mTest (mBin eqD (mVar 4) (mC (.int 0)))) (mAsg (mC .non) (gN 5)) mSkip)
   (mSeq (mIfS (mTest (mBin eqD (mVar 4) (mC (.int 1)))) (mAsg (mBin ixD (mLst (aCons (mBin subI (mBin powI (mC (.int 10)) (mC (.int 12))) (mC (.int 1))) (aCons (mBin powI (mC (.int 10)) (mC (.int 12))) (aCons (mBin powI (mC (.int 10)) (mC (.int 29))) (aCons (mBin subI (mC (.int 0)) (mBin powI (mC (.int 10)) (mC (.int 29)))) aNil))))) (mF (r__law_draw CA) (aCons (mVar 0) (aCons (mC (.int 4)) aNil)))) (gN 5)) mSkip)
   (mSetK (mVar 5) (mVar 2) (mVar 3)))))))
  (mRet (mVar 2))))
def g__law_values (CA : Ly) : MF := body 6 (m__law_values CA)
def r__law_values (CA : Ly) : MF := ar 2 (g__law_values CA)
theorem sc__law_values : FnScope ["pen", "columns", "found", "column", "pick", "value"] ["pen", "columns"] (defScope s__law_values) := C8.fnScope_by (by decide +kernel)
theorem F__law_values (h : DX.Ht dat K mg base CA) : DL.FnR P w K mg base (L2.CX P w) 2 (He.fAd K ("_law_values", none)) (spR K CA (r__law_values CA)) := by
  obtain ⟨fd, FD⟩ := h.fn 30
  exact fn_all (sf_of FD sc__law_values fun cdv A outer s H E hr fr =>
  (sb_cons (ss_box (i := 2) (se_disp1 se_int) sc__law_values.nd)
  (sb_cons (ss_for fr (si_seq (se_var (i := 1))) (sg_name (i := 3) sc__law_values.nd) (sb_cons (ss_set (i := 4) (se_callG (df_fn fr.tk (F__law_draw (P := P) (w := w) (base := base) h) (hr.mono (k := 1) (by decide)) (h.kp 15)) (by rfl) (h.g 15) (sa_cons (se_var (i := 0)) (sa_cons se_int sa_nil))) sc__law_values.nd)
   (sb_cons (ss_set (i := 5) (se_bin dop_subI (se_callG (df_fn fr.tk (F__law_draw (P := P) (w := w) (base := base) h) (hr.mono (k := 1) (by decide)) (h.kp 15)) (by rfl) (h.g 15) (sa_cons (se_var (i := 0)) (sa_cons se_int sa_nil))) se_int) sc__law_values.nd)
   (sb_cons (ss_if (st_cmp (dop_eqD hr.u64) (se_var (i := 4)) se_int (by rfl)) (sb_one (ss_set (i := 5) se_non sc__law_values.nd)) sb_nil)
   (sb_cons (ss_if (st_cmp (dop_eqD hr.u64) (se_var (i := 4)) se_int (by rfl)) (sb_one (ss_set (i := 5) (se_ix (se_lst (sa_cons (se_bin dop_subI (se_bin dop_powI se_int se_int) se_int) (sa_cons (se_bin dop_powI se_int se_int) (sa_cons (se_bin dop_powI se_int se_int) (sa_cons (se_bin dop_subI se_int (se_bin dop_powI se_int se_int)) sa_nil))))) (se_callG (df_fn fr.tk (F__law_draw (P := P) (w := w) (base := base) h) (hr.mono (k := 1) (by decide)) (h.kp 15)) (by rfl) (h.g 15) (sa_cons (se_var (i := 0)) (sa_cons se_int sa_nil)))) sc__law_values.nd)) sb_nil)
   (sb_one (ss_setK hr.u64 (se_var (i := 5)) (se_var (i := 2)) (se_var (i := 3)))))))))
  (sb_one (ss_ret (se_var (i := 2))))))) (FD.bindsN fun _ _ _ _ _ _ us hl => match us, hl with | [_, _], _ => rfl)
abbrev s__law_word : Stmt := top 28
def m__law_word (CA : Ly) : MS :=
  (mRet (mBin ixD (mLst (aCons (mC (.bl false)) (aCons (mC .non) (aCons (mC (.bl true)) aNil)))) (mVar 0)))
def g__law_word (CA : Ly) : MF := body 1 (m__law_word CA)
def r__law_word (CA : Ly) : MF := ar 1 (g__law_word CA)
theorem sc__law_word : FnScope ["number"] ["number"] (defScope s__law_word) := C8.fnScope_by (by decide +kernel)
theorem F__law_word (h : DX.Ht dat K mg base CA) : DL.FnR P w K mg base (L2.CX P w) 1 (He.fAd K ("_law_word", none)) (spR K CA (r__law_word CA)) := by
  obtain ⟨fd, FD⟩ := h.fn 31
  exact fn_all (sf_of FD sc__law_word fun cdv A outer s H E hr fr =>
  (sb_one (ss_ret (se_ix (se_lst (sa_cons se_bl (sa_cons se_non (sa_cons se_bl sa_nil)))) (se_var (i := 0)))))) (FD.bindsN fun _ _ _ _ _ _ us hl => match us, hl with | [_], _ => rfl)
abbrev s__law_looked_at : Stmt := top 29
def m__law_looked_at (CA : Ly) : MS :=
  (mSeq (mAsg (mF (r__law_built CA 24) (aCons (mVar 2) aNil)) (gN 3))
  (mSeq (mIfS (mOr (mTest (mBin neD (mUn (fldD "tree" [1]) (mVar 3)) (mVar 2))) (mTest (mBin neD (mUn (fldD "columns" [1]) (mVar 3)) (mCB (un1 tupD) (aCons (mSortSet (mF (r__law_columns CA 24) (aCons (mVar 2) aNil))) aNil))))) (mRet (mC (.bl false))) mSkip)
  (mSeq (mFor (iRng1M (mC (.int 5))) (gN 4) (mSeq (mAsg (mF (r__law_values CA) (aCons (mVar 0) (aCons (mVar 1) aNil))) (gN 5))
   (mSeq (mAsg (mCB (un1 dicD) (aCons (mVar 5) aNil)) (gN 6))
   (mSeq (mAsg (mCB (un1 dictP) (aCons (mComp (iSeq (mRev (mCB (un1 keysD) (aCons (mVar 5) aNil)))) (([("column", 9)] : List (PySem.Str × Nat)).map (·.2)) (gN 9) mYes (mTup (aCons (mVar 9) (aCons (mBin dgD (mVar 5) (mVar 9)) aNil)))) aNil)) (gN 7))
   (mSeq (mAsg (mLst (aCons (mCI 1 (r_Filter___call__ CA) 3 (aCons (mVar 5) aNil)) (aCons (mCI 1 (r_Filter___call__ CA) 3 (aCons (mVar 7) aNil)) aNil))) (gN 8))
   (mIfS (mOr (mTest (mBin neS (mCB (un1 reprA) (aCons (mVar 8) aNil)) (mCB (un1 reprA) (aCons (mBin mulL (mLst (aCons (mF (r__law_word CA) (aCons (mF (r__law_numbered CA 24) (aCons (mVar 2) (aCons (mVar 5) aNil))) aNil)) aNil)) (mC (.int 2))) aNil)))) (mTest (mBin (dkSame true) (mVar 5) (mVar 6)))) (mRet (mC (.bl false))) mSkip))))))
  (mRet (mBin eqD (mUn (fldD "tree" [1]) (mVar 3)) (mVar 2))))))
def g__law_looked_at (CA : Ly) : MF := body 10 (m__law_looked_at CA)
def r__law_looked_at (CA : Ly) : MF := ar 3 (g__law_looked_at CA)
theorem sc__law_looked_at : FnScope ["pen", "columns", "tree", "made", "turn", "values", "kept", "turned", "found", "column"] ["pen", "columns", "tree"] (defScope s__law_looked_at) := C8.fnScope_by (by decide +kernel)
theorem F__law_looked_at (h : DX.Ht dat K mg base CA) : DL.FnR P w K mg base (L2.CX P w) 54 (He.fAd K ("_law_looked_at", none)) (spR K CA (r__law_looked_at CA)) := by
  obtain ⟨fd, FD⟩ := h.fn 32
  exact fn_all (sf_of FD sc__law_looked_at fun cdv A outer s H E hr fr =>
  (sb_cons (ss_set (i := 3) (se_callG (df_fn fr.tk (F__law_built (P := P) (w := w) (base := base) h 24) (hr.mono (k := 53) (by decide)) (h.kp 21)) (by rfl) (h.g 21) (sa_cons (se_var (i := 2)) sa_nil)) sc__law_looked_at.nd)
  (sb_cons (ss_if (SW.st' (sw_or (st_cmp (dop_neD hr.u64) (se_fld (se_var (i := 3)) (h.na [1] "tree")) (se_var (i := 2)) (by rfl)) (sw_or1 (st_cmp (dop_neD hr.u64) (se_fld (se_var (i := 3)) (h.na [1] "columns")) (se_callTy dc_tuple (by rfl) (h.b 5) (by rfl) (sa_cons (se_sortSet fr.calm (se_callG (df_fn fr.tk (F__law_columns (P := P) (w := w) (base := base) h 24) (hr.mono (k := 25) (by decide)) (h.kp 22)) (by rfl) (h.g 22) (sa_cons (se_var (i := 2)) sa_nil)) (by rfl) (by rfl) (h.b 12) (h.b 14)) sa_nil)) (by rfl))))) (sb_one (ss_ret se_bl)) sb_nil)
  (sb_cons (ss_for fr (si_rng1 (by rfl) (h.b 10) se_int) (sg_name (i := 4) sc__law_looked_at.nd) (sb_cons (ss_set (i := 5) (se_callG (df_fn fr.tk (F__law_values (P := P) (w := w) (base := base) h) (hr.mono (k := 2) (by decide)) (h.kp 23)) (by rfl) (h.g 23) (sa_cons (se_var (i := 0)) (sa_cons (se_var (i := 1)) sa_nil))) sc__law_looked_at.nd)
   (sb_cons (ss_set (i := 6) (se_callTy dc_dict (by rfl) (h.b 16) (by rfl) (sa_cons (se_var (i := 5)) sa_nil)) sc__law_looked_at.nd)
   (sb_cons (ss_set (i := 7) (se_callTy (dc_dictP fr.calm) (by rfl) (h.b 16) (by rfl) (sa_cons (se_comp (own := [("column", 9)]) fr.calm sc__law_looked_at.nd (si_seq (se_rev (se_callTy (dc_keys fr.calm) (by rfl) (h.b 4) (by rfl) (sa_cons (se_var (i := 5)) sa_nil)))) (blkOk_by (by kernel_rfl)) (by decide) (fun s H C cl fp => (sg_name (i := 9) sc__law_looked_at.nd)) (fun s H C cl fp => pts_no) (fun s H C cl fp => (se_tup (sa_cons (se_var (i := 9)) (sa_cons (se_dget hr.u64 (se_var (i := 5)) (se_var (i := 9))) sa_nil))))) sa_nil)) sc__law_looked_at.nd)
   (sb_cons (ss_set (i := 8) (se_lst (sa_cons (se_callI (c := 1) (i := 3) (h.fd 7) (h.ff 7) (h.fi 0) (F_Filter___call__ (P := P) (w := w) (base := base) h) (hr.mono (k := 27) (by decide)) (by rfl) (.inl (by rfl)) (sa_cons (se_var (i := 5)) sa_nil)) (sa_cons (se_callI (c := 1) (i := 3) (h.fd 7) (h.ff 7) (h.fi 0) (F_Filter___call__ (P := P) (w := w) (base := base) h) (hr.mono (k := 27) (by decide)) (by rfl) (.inl (by rfl)) (sa_cons (se_var (i := 7)) sa_nil)) sa_nil))) sc__law_looked_at.nd)
   (sb_one (ss_if (SW.st' (sw_or (st_cmp dop_neS (se_callB (dc_reprA hr.gd hr.u64) (by rfl) (h.b 15) (by rfl) (sa_cons (se_var (i := 8)) sa_nil)) (se_callB (dc_reprA hr.gd hr.u64) (by rfl) (h.b 15) (by rfl) (sa_cons (se_bin dop_mulL (se_lst (sa_cons (se_callG (df_fn fr.tk (F__law_word (P := P) (w := w) (base := base) h) (hr.mono (k := 1) (by decide)) (h.kp 24)) (by rfl) (h.g 24) (sa_cons (se_callG (df_fn fr.tk (F__law_numbered (P := P) (w := w) (base := base) h 24) (hr.mono (k := 25) (by decide)) (h.kp 19)) (by rfl) (h.g 19) (sa_cons (se_var (i := 2)) (sa_cons (se_var (i := 5)) sa_nil))) sa_nil)) sa_nil)) se_int) sa_nil)) (by rfl)) (sw_or1 (st_cmp (dop_neDk hr.u64) (se_var (i := 5)) (se_var (i := 6)) (by rfl))))) (sb_one (ss_ret se_bl)) sb_nil)))))))
  (sb_one (ss_ret (se_cmp (dop_eqD hr.u64) (se_fld (se_var (i := 3)) (h.na [1] "tree")) (se_var (i := 2)) (by rfl)))))))) (FD.bindsN fun _ _ _ _ _ _ us hl => match us, hl with | [_, _, _], _ => rfl)
abbrev s__law_part_one : Stmt := top 30
def m__law_part_one (CA : Ly) : MS :=
  (mSeq (mBox (mF (r__law_pen CA) (aCons (mVar 0) aNil)) 1)
  (mSeq (mBox (mLst (aCons (mC (.str "a")) (aCons (mC (.str "b")) (aCons (mC (.str "key")) (aCons (mC (.str "in")) (aCons (mC (.str "always")) (aCons (mC (.str "missing")) (aCons (mC (.str "r")) (aCons (mC (.str "zzzzzzzz")) aNil))))))))) 2)
  (mSeq (mFor (iSeq (mLst (aCons (mTup (aCons (mC (.int 3)) (aCons (mC (.int 3)) aNil))) (aCons (mTup (aCons (mC (.int 8)) (aCons (mC (.int 5)) aNil))) (aCons (mTup (aCons (mC (.int 60)) (aCons (mC (.int 20)) aNil))) (aCons (mTup (aCons (mC (.int 20)) (aCons (mC (.int 20)) aNil))) aNil)))))) (gTup [(gN 3), (gN 4)]) (mSeq (mAsg (mComp (iRng1M (mBin addI (mC (.int 1)) (mF (r__law_draw CA) (aCons (mVar 1) (aCons (mC (.int 4)) aNil))))) (([("turn", 7)] : List (PySem.Str × Nat)).map (·.2)) (gN 7) mYes (mBm popD (mVar 2) (aCons (mF (r__law_draw CA) (aCons (mVar 1) (aCons (mCB (un1 lenD) (aCons (mVar 2) aNil)) aNil))) aNil))) (gN 5))
   (mSeq (mAsg (mF (r__law_grown CA 21) (aCons (mVar 1) (aCons (mVar 5) (aCons (mBin addI (mC (.int 1)) (mF (r__law_draw CA) (aCons (mVar 1) (aCons (mVar 3) aNil)))) (aCons (mVar 4) aNil))))) (gN 6))
   (mSeq (mIfS (mNot (mTest (mF (r__law_looked_at CA) (aCons (mVar 1) (aCons (mVar 5) (aCons (mVar 6) aNil)))))) (mRet (mC (.bl false))) mSkip)
   (mBox (mBin addL (mVar 2) (mVar 5)) 2)))))
  (mRet (mC (.bl true))))))
def g__law_part_one (CA : Ly) : MF := body 8 (m__law_part_one CA)
def r__law_part_one (CA : Ly) : MF := ar 1 (g__law_part_one CA)
theorem sc__law_part_one : FnScope ["script", "pen", "names", "most", "deep", "columns", "tree", "turn"] ["script"] (defScope s__law_part_one) := C8.fnScope_by (by decide +kernel)
theorem F__law_part_one (h : DX.Ht dat K mg base CA) : DL.FnR P w K mg base (L2.CX P w) 55 (He.fAd K ("_law_part_one", none)) (spR K CA (r__law_part_one CA)) := by
  obtain ⟨fd, FD⟩ := h.fn 33
  exact fn_all (sf_of FD sc__law_part_one fun cdv A outer s H E hr fr =>
  (sb_cons (ss_box (i := 1) (se_callG (df_fn fr.tk (F__law_pen (P := P) (w := w) (base := base) h) (hr.mono (k := 1) (by decide)) (h.kp 14)) (by rfl) (h.g 14) (sa_cons (se_var (i := 0)) sa_nil)) sc__law_part_one.nd)
  (sb_cons (ss_box (i := 2) (se_lst (sa_cons se_str (sa_cons se_str (sa_cons se_str (sa_cons se_str (sa_cons se_str (sa_cons se_str (sa_cons se_str (sa_cons se_str sa_nil))))))))) sc__law_part_one.nd)
  (sb_cons (ss_for fr (si_seq (se_lst (sa_cons (se_tup (sa_cons se_int (sa_cons se_int sa_nil))) (sa_cons (se_tup (sa_cons se_int (sa_cons se_int sa_nil))) (sa_cons (se_tup (sa_cons se_int (sa_cons se_int sa_nil))) (sa_cons (se_tup (sa_cons se_int (sa_cons se_int sa_nil))) sa_nil)))))) (sg_tup (gs := [(gN 3), (gN 4)]) fr.calm (sgs_cons (sg_name (i := 3) sc__law_part_one.nd) (sgs_cons (sg_name (i := 4) sc__law_part_one.nd) sgs_nil))) (sb_cons (ss_setComp (i := 5) (own := [("turn", 7)]) fr.calm sc__law_part_one.nd (by rfl) (by rfl) (by rfl) (si_rng1 (by rfl) (h.b 10) (se_bin dop_addI se_int (se_callG (df_fn fr.tk (F__law_draw (P := P) (w := w) (base := base) h) (hr.mono (k := 1) (by decide)) (h.kp 15)) (by rfl) (h.g 15) (sa_cons (se_var (i := 1)) (sa_cons se_int sa_nil))))) (blkOk_by (by kernel_rfl)) (by decide) (fun s H C cl fp => (sg_name (i := 7) sc__law_part_one.nd)) (fun s H C cl fp => pts_no) (fun s H C cl fp => (se_bm F.plainAttrs_list F.slot_list_pop (by rfl) dml_pop (se_var (i := 2)) (sa_cons (se_callG (df_fn DL.takes0 (F__law_draw (P := P) (w := w) (base := base) h) (hr.mono (k := 1) (by decide)) (h.kp 15)) (by rfl) (h.g 15) (sa_cons (se_var (i := 1)) (sa_cons (se_callB dc_len (by rfl) (h.b 0) (by rfl) (sa_cons (se_var (i := 2)) sa_nil)) sa_nil))) sa_nil))))
   (sb_cons (ss_set (i := 6) (se_callG (df_fn fr.tk (F__law_grown (P := P) (w := w) (base := base) h 21) (hr.mono (k := 29) (by decide)) (h.kp 20)) (by rfl) (h.g 20) (sa_cons (se_var (i := 1)) (sa_cons (se_var (i := 5)) (sa_cons (se_bin dop_addI se_int (se_callG (df_fn fr.tk (F__law_draw (P := P) (w := w) (base := base) h) (hr.mono (k := 1) (by decide)) (h.kp 15)) (by rfl) (h.g 15) (sa_cons (se_var (i := 1)) (sa_cons (se_var (i := 3)) sa_nil)))) (sa_cons (se_var (i := 4)) sa_nil))))) sc__law_part_one.nd)
   (sb_cons (ss_if (st_not (st_val (se_callG (df_fn fr.tk (F__law_looked_at (P := P) (w := w) (base := base) h) (hr.mono (k := 54) (by decide)) (h.kp 25)) (by rfl) (h.g 25) (sa_cons (se_var (i := 1)) (sa_cons (se_var (i := 5)) (sa_cons (se_var (i := 6)) sa_nil)))))) (sb_one (ss_ret se_bl)) sb_nil)
   (sb_one (ss_box (i := 2) (se_bin dop_addL (se_var (i := 2)) (se_var (i := 5))) sc__law_part_one.nd))))))
  (sb_one (ss_ret se_bl)))))) (FD.bindsN fun _ _ _ _ _ _ us hl => match us, hl with | [_], _ => rfl)
abbrev s__law_draw_b : Stmt := top 31
def m__law_draw_b (CA : Ly) : MS :=
  (mSeq (mIfS (mTest (mBin gtI (mBin ixD (mVar 0) (mC (.int 2))) (mC (.int 0)))) (mSeq (mAsg (mBin modI (mCB (un1 intD) (aCons (mBin ixD (mVar 0) (mC (.int 2))) aNil)) (mVar 1)) (gN 5))
   (mSeq (mSetIx (mBin divW (mBin ixD (mVar 0) (mC (.int 2))) (mVar 1)) (mVar 0) (mC (.int 2)))
   (mRet (mVar 5)))) mSkip)
  (mSeq (mAsg (mBin ixD (mVar 0) (mC (.int 1))) (gN 2))
  (mSeq (mSetIx (mBin addI (mVar 2) (mC (.int 1))) (mVar 0) (mC (.int 1)))
  (mSeq (mAsg (mBin addI (mBin mulI (mC (.int 44123)) (mVar 2)) (mC (.int 11))) (gN 3))
  (mSeq (mIfS (mTest (mBin neD (mBin ixD (mVar 0) (mC (.int 0))) (mLst aNil))) (mAsg (mBin ixD (mBin ixD (mVar 0) (mC (.int 0))) (mBin modI (mCB (un1 intD) (aCons (mVar 2) aNil)) (mCB (un1 lenD) (aCons (mBin ixD (mVar 0) (mC (.int 0))) aNil)))) (gN 3)) mSkip)
  (mSeq (mIfS (mAnd (mTest (mBin ltI (mVar 2) (mCB (un1 lenD) (aCons (mBin ixD (mVar 0) (mC (.int 0))) aNil)))) (mTest (mBin geI (mCB (un1 absD) (aCons (mVar 3) aNil)) (mBin powI (mC (.int 10)) (mC (.int 18)))))) (mSeq (mAsg (mBin addI (mBin mulI (mC (.int 2)) (mCB (un1 absD) (aCons (mVar 3) aNil))) (mCB (un1 intD) (aCons (mBin ltI (mVar 3) (mC (.int 0))) aNil))) (gN 6))
   (mSeq (mSetIx (mBin divW (mVar 6) (mVar 1)) (mVar 0) (mC (.int 2)))
   (mRet (mBin modI (mCB (un1 intD) (aCons (mVar 6) aNil)) (mVar 1))))) mSkip)
  (mSeq (mAsg (mBin modI (mBin powI (mCB (un1 intD) (aCons (mBin addI (mBin addI (mBin modI (mCB (un1 intD) (aCons (mVar 3) aNil)) (mC (.int 2147483549))) (mBin mulI (mC (.int 54323)) (mVar 2))) (mC (.int 25))) aNil)) (mC (.int 5))) (mC (.int 2147483579))) (gN 4))
  (mSeq (mAsg (mBin modI (mBin powI (mCB (un1 intD) (aCons (mBin addI (mBin addI (mBin mulI (mVar 4) (mBin addI (mBin mulI (mC (.int 2)) (mVar 2)) (mC (.int 39)))) (mBin mulI (mBin mulI (mC (.int 70001)) (mVar 2)) (mVar 2))) (mC (.int 13))) aNil)) (mC (.int 3))) (mC (.int 2147483629))) (gN 4))
  (mRet (mBin modI (mCB (un1 intD) (aCons (mBin divW (mVar 4) (mC (.int 16))) aNil)) (mVar 1)))))))))))
def g__law_draw_b (CA : Ly) : MF := body 7 (m__law_draw_b CA)
def r__law_draw_b (CA : Ly) : MF := ar 2 (g__law_draw_b CA)
theorem sc__law_draw_b : FnScope ["pen", "many", "at", "cell", "mixed", "digit", "large"] ["pen", "many"] (defScope s__law_draw_b) := C8.fnScope_by (by decide +kernel)
theorem F__law_draw_b (h : DX.Ht dat K mg base CA) : DL.FnR P w K mg base (L2.CX P w) 1 (He.fAd K ("_law_draw_b", none)) (spR K CA (r__law_draw_b CA)) := by
  obtain ⟨fd, FD⟩ := h.fn 34
  exact fn_all (sf_of FD sc__law_draw_b fun cdv A outer s H E hr fr =>
  (sb_cons (ss_if (st_cmp dop_gtI (se_ix (se_var (i := 0)) se_int) se_int (by rfl)) (sb_cons (ss_set (i := 5) (se_bin dop_modI (se_callTy dc_int (by rfl) (h.b 2) (by rfl) (sa_cons (se_ix (se_var (i := 0)) se_int) sa_nil)) (se_var (i := 1))) sc__law_draw_b.nd)
   (sb_cons (ss_setIx (se_bin dop_divW (se_ix (se_var (i := 0)) se_int) (se_var (i := 1))) (se_var (i := 0)) se_int)
   (sb_one (ss_ret (se_var (i := 5)))))) sb_nil)
  (sb_cons (ss_set (i := 2) (se_ix (se_var (i := 0)) se_int) sc__law_draw_b.nd)
  (sb_cons (ss_setIx (se_bin dop_addI (se_var (i := 2)) se_int) (se_var (i := 0)) se_int)
  (sb_cons (ss_set (i := 3) (se_bin dop_addI (se_bin dop_mulI se_int (se_var (i := 2))) se_int) sc__law_draw_b.nd)
  (sb_cons (ss_if (st_cmp (dop_neD hr.u64) (se_ix (se_var (i := 0)) se_int) (se_lst sa_nil) (by rfl)) (sb_one (ss_set (i := 3) (se_ix (se_ix (se_var (i := 0)) se_int) (se_bin dop_modI (se_callTy dc_int (by rfl) (h.b 2) (by rfl) (sa_cons (se_var (i := 2)) sa_nil)) (se_callB dc_len (by rfl) (h.b 0) (by rfl) (sa_cons (se_ix (se_var (i := 0)) se_int) sa_nil)))) sc__law_draw_b.nd)) sb_nil)
  (sb_cons (ss_if (SW.st' (sw_and (st_cmp dop_ltI (se_var (i := 2)) (se_callB dc_len (by rfl) (h.b 0) (by rfl) (sa_cons (se_ix (se_var (i := 0)) se_int) sa_nil)) (by rfl)) (sw_and1 (st_cmp dop_geI (se_callB dc_abs (by rfl) (h.b 1) (by rfl) (sa_cons (se_var (i := 3)) sa_nil)) (se_bin dop_powI se_int se_int) (by rfl))))) (sb_cons (ss_set (i := 6) (se_bin dop_addI (se_bin dop_mulI se_int (se_callB dc_abs (by rfl) (h.b 1) (by rfl) (sa_cons (se_var (i := 3)) sa_nil))) (se_callTy dc_int (by rfl) (h.b 2) (by rfl) (sa_cons (se_cmp dop_ltI (se_var (i := 3)) se_int (by rfl)) sa_nil))) sc__law_draw_b.nd)
   (sb_cons (ss_setIx (se_bin dop_divW (se_var (i := 6)) (se_var (i := 1))) (se_var (i := 0)) se_int)
   (sb_one (ss_ret (se_bin dop_modI (se_callTy dc_int (by rfl) (h.b 2) (by rfl) (sa_cons (se_var (i := 6)) sa_nil)) (se_var (i := 1))))))) sb_nil)
  (sb_cons (ss_set (i := 4) (se_bin dop_modI (se_bin dop_powI (se_callTy dc_int (by rfl) (h.b 2) (by rfl) (sa_cons (se_bin dop_addI (se_bin dop_addI (se_bin dop_modI (se_callTy dc_int (by rfl) (h.b 2) (by rfl) (sa_cons (se_var (i := 3)) sa_nil)) se_int) (se_bin dop_mulI se_int (se_var (i := 2)))) se_int) sa_nil)) se_int) se_int) sc__law_draw_b.nd)
  (sb_cons (ss_set (i := 4) (se_bin dop_modI (se_bin dop_powI (se_callTy dc_int (by rfl) (h.b 2) (by rfl) (sa_cons (se_bin dop_addI (se_bin dop_addI (se_bin dop_mulI (se_var (i := 4)) (se_bin dop_addI (se_bin dop_mulI se_int (se_var (i := 2))) se_int)) (se_bin dop_mulI (se_bin dop_mulI se_int (se_var (i := 2))) (se_var (i := 2)))) se_int) sa_nil)) se_int) se_int) sc__law_draw_b.nd)
  (sb_one (ss_ret (se_bin dop_modI (se_callTy dc_int (by rfl) (h.b 2) (by rfl) (sa_cons (se_bin dop_divW (se_var (i := 4)) se_int) sa_nil)) (se_var (i := 1)))))))))))))) (FD.bindsN fun _ _ _ _ _ _ us hl => match us, hl with | [_, _], _ => rfl)
abbrev s__law_ranges_b : Stmt := top 32
def m__law_ranges_b (CA : Ly) : MS :=
  (mSeq (mAsg (mBin subI (mF (r__law_draw_b CA) (aCons (mVar 0) (aCons (mC (.int 9)) aNil))) (mC (.int 4))) (gN 1))
  (mSeq (mAsg (mF (r__law_draw_b CA) (aCons (mVar 0) (aCons (mC (.int 7)) aNil))) (gN 2))
  (mSeq (mIfS (mTest (mBin eqD (mVar 2) (mC (.int 0)))) (mRet (mCM (CA 0) (r_Ranges_of CA) (mC (.adr (CA 0))) (aCons (mVar 1) (aCons (mBin addI (mBin addI (mVar 1) (mC (.int 1))) (mF (r__law_draw_b CA) (aCons (mVar 0) (aCons (mC (.int 3)) aNil)))) (aCons (mBin addI (mVar 1) (mC (.int 5))) aNil))))) mSkip)
  (mSeq (mIfS (mTest (mBin eqD (mVar 2) (mC (.int 1)))) (mRet (mCM (CA 0) (r_Ranges_between CA) (mC (.adr (CA 0))) (aCons (mC .non) (aCons (mVar 1) aNil)))) mSkip)
  (mSeq (mIfS (mTest (mBin eqD (mVar 2) (mC (.int 2)))) (mRet (mCM (CA 0) (r_Ranges_between CA) (mC (.adr (CA 0))) (aCons (mVar 1) (aCons (mC .non) aNil)))) mSkip)
  (mSeq (mIfS (mTest (mBin eqD (mVar 2) (mC (.int 3)))) (mRet (mBin (fun x y bx => noX (binC 0 (r_Ranges___sub__ CA) x y bx)) (mCM (CA 0) (r_Ranges_full CA) (mC (.adr (CA 0))) aNil) (mCM (CA 0) (r_Ranges_of CA) (mC (.adr (CA 0))) (aCons (mVar 1) aNil)))) mSkip)
  (mSeq (mIfS (mTest (mBin eqD (mVar 2) (mC (.int 4)))) (mRet (mBin ixD (mLst (aCons (mCM (CA 0) (r_Ranges_empty CA) (mC (.adr (CA 0))) aNil) (aCons (mCM (CA 0) (r_Ranges_full CA) (mC (.adr (CA 0))) aNil) aNil))) (mF (r__law_draw_b CA) (aCons (mVar 0) (aCons (mC (.int 2)) aNil))))) mSkip)
  (mSeq (mIfS (mTest (mBin eqD (mVar 2) (mC (.int 5)))) (mRet (mBin (fun x y bx => noX (binC 0 (r_Ranges___or__ CA) x y bx)) (mCM (CA 0) (r_Ranges_between CA) (mC (.adr (CA 0))) (aCons (mVar 1) (aCons (mBin addI (mVar 1) (mF (r__law_draw_b CA) (aCons (mVar 0) (aCons (mC (.int 4)) aNil)))) aNil))) (mCM (CA 0) (r_Ranges_of CA) (mC (.adr (CA 0))) (aCons (mBin subI (mBin powI (mC (.int 10)) (mC (.int 12))) (mC (.int 1))) aNil)))) mSkip)
  (mRet (mCM (CA 0) (r_Ranges_between CA) (mC (.adr (CA 0))) (aCons (mVar 1) (aCons (mBin addI (mVar 1) (mF (r__law_draw_b CA) (aCons (mVar 0) (aCons (mC (.int 4)) aNil)))) aNil))))))))))))
def g__law_ranges_b (CA : Ly) : MF := body 3 (m__law_ranges_b CA)
def r__law_ranges_b (CA : Ly) : MF := ar 1 (g__law_ranges_b CA)
theorem sc__law_ranges_b : FnScope ["pen", "low", "pick"] ["pen"] (defScope s__law_ranges_b) := C8.fnScope_by (by decide +kernel)
theorem F__law_ranges_b (h : DX.Ht dat K mg base CA) : DL.FnR P w K mg base (L2.CX P w) 6 (He.fAd K ("_law_ranges_b", none)) (spR K CA (r__law_ranges_b CA)) := by
  obtain ⟨fd, FD⟩ := h.fn 35
  exact fn_all (sf_of FD sc__law_ranges_b fun cdv A outer s H E hr fr =>
  (sb_cons (ss_set (i := 1) (se_bin dop_subI (se_callG (df_fn fr.tk (F__law_draw_b (P := P) (w := w) (base := base) h) (hr.mono (k := 1) (by decide)) (h.kp 27)) (by rfl) (h.g 27) (sa_cons (se_var (i := 0)) (sa_cons se_int sa_nil))) se_int) sc__law_ranges_b.nd)
  (sb_cons (ss_set (i := 2) (se_callG (df_fn fr.tk (F__law_draw_b (P := P) (w := w) (base := base) h) (hr.mono (k := 1) (by decide)) (h.kp 27)) (by rfl) (h.g 27) (sa_cons (se_var (i := 0)) (sa_cons se_int sa_nil))) sc__law_ranges_b.nd)
  (sb_cons (ss_if (st_cmp (dop_eqD hr.u64) (se_var (i := 2)) se_int (by rfl)) (sb_one (ss_ret (se_cm fr.tk (h.cr 0) (h.cm 0) (F_Ranges_of (P := P) (w := w) (base := base) h) (hr.mono (k := 5) (by decide)) (se_glob (by rfl) (h.gC 0 9)) (sa_cons (se_var (i := 1)) (sa_cons (se_bin dop_addI (se_bin dop_addI (se_var (i := 1)) se_int) (se_callG (df_fn fr.tk (F__law_draw_b (P := P) (w := w) (base := base) h) (hr.mono (k := 1) (by decide)) (h.kp 27)) (by rfl) (h.g 27) (sa_cons (se_var (i := 0)) (sa_cons se_int sa_nil)))) (sa_cons (se_bin dop_addI (se_var (i := 1)) se_int) sa_nil)))))) sb_nil)
  (sb_cons (ss_if (st_cmp (dop_eqD hr.u64) (se_var (i := 2)) se_int (by rfl)) (sb_one (ss_ret (se_cm fr.tk (h.cr 0) (h.cm 1) (F_Ranges_between (P := P) (w := w) (base := base) h) (hr.mono (k := 5) (by decide)) (se_glob (by rfl) (h.gC 0 9)) (sa_cons se_non (sa_cons (se_var (i := 1)) sa_nil))))) sb_nil)
  (sb_cons (ss_if (st_cmp (dop_eqD hr.u64) (se_var (i := 2)) se_int (by rfl)) (sb_one (ss_ret (se_cm fr.tk (h.cr 0) (h.cm 1) (F_Ranges_between (P := P) (w := w) (base := base) h) (hr.mono (k := 5) (by decide)) (se_glob (by rfl) (h.gC 0 9)) (sa_cons (se_var (i := 1)) (sa_cons se_non sa_nil))))) sb_nil)
  (sb_cons (ss_if (st_cmp (dop_eqD hr.u64) (se_var (i := 2)) se_int (by rfl)) (sb_one (ss_ret (se_bin (dop_binC (c := 0) (h.sf 0) (h.fd 2) (h.ff 2) (F_Ranges___sub__ (P := P) (w := w) (base := base) h) (hr.mono (k := 5) (by decide))) (se_cm0 fr.tk (h.cr 0) (h.cm 2) (F_Ranges_full (P := P) (w := w) (base := base) h) (hr.mono (k := 5) (by decide)) (se_glob (by rfl) (h.gC 0 9))) (se_cm fr.tk (h.cr 0) (h.cm 0) (F_Ranges_of (P := P) (w := w) (base := base) h) (hr.mono (k := 5) (by decide)) (se_glob (by rfl) (h.gC 0 9)) (sa_cons (se_var (i := 1)) sa_nil))))) sb_nil)
  (sb_cons (ss_if (st_cmp (dop_eqD hr.u64) (se_var (i := 2)) se_int (by rfl)) (sb_one (ss_ret (se_ix (se_lst (sa_cons (se_cm0 fr.tk (h.cr 0) (h.cm 3) (F_Ranges_empty (P := P) (w := w) (base := base) h) (hr.mono (k := 5) (by decide)) (se_glob (by rfl) (h.gC 0 9))) (sa_cons (se_cm0 fr.tk (h.cr 0) (h.cm 2) (F_Ranges_full (P := P) (w := w) (base := base) h) (hr.mono (k := 5) (by decide)) (se_glob (by rfl) (h.gC 0 9))) sa_nil))) (se_callG (df_fn fr.tk (F__law_draw_b (P := P) (w := w) (base := base) h) (hr.mono (k := 1) (by decide)) (h.kp 27)) (by rfl) (h.g 27) (sa_cons (se_var (i := 0)) (sa_cons se_int sa_nil)))))) sb_nil)
  (sb_cons (ss_if (st_cmp (dop_eqD hr.u64) (se_var (i := 2)) se_int (by rfl)) (sb_one (ss_ret (se_bin (dop_binC (c := 0) (h.sf 0) (h.fd 0) (h.ff 0) (F_Ranges___or__ (P := P) (w := w) (base := base) h) (hr.mono (k := 5) (by decide))) (se_cm fr.tk (h.cr 0) (h.cm 1) (F_Ranges_between (P := P) (w := w) (base := base) h) (hr.mono (k := 5) (by decide)) (se_glob (by rfl) (h.gC 0 9)) (sa_cons (se_var (i := 1)) (sa_cons (se_bin dop_addI (se_var (i := 1)) (se_callG (df_fn fr.tk (F__law_draw_b (P := P) (w := w) (base := base) h) (hr.mono (k := 1) (by decide)) (h.kp 27)) (by rfl) (h.g 27) (sa_cons (se_var (i := 0)) (sa_cons se_int sa_nil)))) sa_nil))) (se_cm fr.tk (h.cr 0) (h.cm 0) (F_Ranges_of (P := P) (w := w) (base := base) h) (hr.mono (k := 5) (by decide)) (se_glob (by rfl) (h.gC 0 9)) (sa_cons (se_bin dop_subI (se_bin dop_powI se_int se_int) se_int) sa_nil))))) sb_nil)
  (sb_one (ss_ret (se_cm fr.tk (h.cr 0) (h.cm 1) (F_Ranges_between (P := P) (w := w) (base := base) h) (hr.mono (k := 5) (by decide)) (se_glob (by rfl) (h.gC 0 9)) (sa_cons (se_var (i := 1)) (sa_cons (se_bin dop_addI (se_var (i := 1)) (se_callG (df_fn fr.tk (F__law_draw_b (P := P) (w := w) (base := base) h) (hr.mono (k := 1) (by decide)) (h.kp 27)) (by rfl) (h.g 27) (sa_cons (se_var (i := 0)) (sa_cons se_int sa_nil)))) sa_nil)))))))))))))) (FD.bindsN fun _ _ _ _ _ _ us hl => match us, hl with | [_], _ => rfl)
abbrev s__law_leaf_b : Stmt := top 33
def m__law_leaf_b (CA : Ly) : MS :=
  (mSeq (mAsg (mBin ixD (mVar 1) (mF (r__law_draw_b CA) (aCons (mVar 0) (aCons (mCB (un1 lenD) (aCons (mVar 1) aNil)) aNil)))) (gN 2))
  (mSeq (mAsg (mF (r__law_draw_b CA) (aCons (mVar 0) (aCons (mC (.int 8)) aNil))) (gN 3))
  (mSeq (mIfS (mTest (mBin eqD (mVar 3) (mC (.int 0)))) (mRet (mTup (aCons (mC (.str "missing")) (aCons (mVar 2) aNil)))) mSkip)
  (mSeq (mIfS (mTest (mBin eqD (mVar 3) (mC (.int 1)))) (mRet (mBin ixD (mLst (aCons (mTup (aCons (mC (.str "always")) aNil)) (aCons (mTup (aCons (mC (.str "never")) aNil)) aNil))) (mF (r__law_draw_b CA) (aCons (mVar 0) (aCons (mC (.int 2)) aNil))))) mSkip)
  (mRet (mTup (aCons (mC (.str "within")) (aCons (mVar 2) (aCons (mUn (fldD "parts" [0]) (mF (r__law_ranges_b CA) (aCons (mVar 0) aNil))) aNil)))))))))
def g__law_leaf_b (CA : Ly) : MF := body 4 (m__law_leaf_b CA)
def r__law_leaf_b (CA : Ly) : MF := ar 2 (g__law_leaf_b CA)
theorem sc__law_leaf_b : FnScope ["pen", "columns", "column", "pick"] ["pen", "columns"] (defScope s__law_leaf_b) := C8.fnScope_by (by decide +kernel)
theorem F__law_leaf_b (h : DX.Ht dat K mg base CA) : DL.FnR P w K mg base (L2.CX P w) 7 (He.fAd K ("_law_leaf_b", none)) (spR K CA (r__law_leaf_b CA)) := by
  obtain ⟨fd, FD⟩ := h.fn 36
  exact fn_all (sf_of FD sc__law_leaf_b fun cdv A outer s H E hr fr =>
  (sb_cons (ss_set (i := 2) (se_ix (se_var (i := 1)) (se_callG (df_fn fr.tk (F__law_draw_b (P := P) (w := w) (base := base) h) (hr.mono (k := 1) (by decide)) (h.kp 27)) (by rfl) (h.g 27) (sa_cons (se_var (i := 0)) (sa_cons (se_callB dc_len (by rfl) (h.b 0) (by rfl) (sa_cons (se_var (i := 1)) sa_nil)) sa_nil)))) sc__law_leaf_b.nd)
  (sb_cons (ss_set (i := 3) (se_callG (df_fn fr.tk (F__law_draw_b (P := P) (w := w) (base := base) h) (hr.mono (k := 1) (by decide)) (h.kp 27)) (by rfl) (h.g 27) (sa_cons (se_var (i := 0)) (sa_cons se_int sa_nil))) sc__law_leaf_b.nd)
  (sb_cons (ss_if (st_cmp (dop_eqD hr.u64) (se_var (i := 3)) se_int (by rfl)) (sb_one (ss_ret (se_tup (sa_cons se_str (sa_cons (se_var (i := 2)) sa_nil))))) sb_nil)
  (sb_cons (ss_if (st_cmp (dop_eqD hr.u64) (se_var (i := 3)) se_int (by rfl)) (sb_one (ss_ret (se_ix (se_lst (sa_cons (se_tup (sa_cons se_str sa_nil)) (sa_cons (se_tup (sa_cons se_str sa_nil)) sa_nil))) (se_callG (df_fn fr.tk (F__law_draw_b (P := P) (w := w) (base := base) h) (hr.mono (k := 1) (by decide)) (h.kp 27)) (by rfl) (h.g 27) (sa_cons (se_var (i := 0)) (sa_cons se_int sa_nil)))))) sb_nil)
  (sb_one (ss_ret (se_tup (sa_cons se_str (sa_cons (se_var (i := 2)) (sa_cons (se_fld (se_callG (df_fn fr.tk (F__law_ranges_b (P := P) (w := w) (base := base) h) (hr.mono (k := 6) (by decide)) (h.kp 28)) (by rfl) (h.g 28) (sa_cons (se_var (i := 0)) sa_nil)) (h.na [0] "parts")) sa_nil))))))))))) (FD.bindsN fun _ _ _ _ _ _ us hl => match us, hl with | [_, _], _ => rfl)
abbrev s__law_condition : Stmt := top 34
def m__law_condition (CA : Ly) : MS :=
  (mSeq (mIfS (mTest (mBin eqD (mBin ixD (mVar 0) (mC (.int 0))) (mC (.str "always")))) (mRet (mCM (CA 1) (r_Filter_always CA) (mC (.adr (CA 1))) aNil)) mSkip)
  (mSeq (mIfS (mTest (mBin eqD (mBin ixD (mVar 0) (mC (.int 0))) (mC (.str "never")))) (mRet (mCM (CA 1) (r_Filter_never CA) (mC (.adr (CA 1))) aNil)) mSkip)
  (mSeq (mIfS (mTest (mBin eqD (mBin ixD (mVar 0) (mC (.int 0))) (mC (.str "missing")))) (mRet (mCM (CA 1) (r_Filter_missing CA) (mC (.adr (CA 1))) (aCons (mBin ixD (mVar 0) (mC (.int 1))) aNil))) mSkip)
  (mRet (mCM (CA 1) (r_Filter_within CA) (mC (.adr (CA 1))) (aCons (mBin ixD (mVar 0) (mC (.int 1))) (aCons (mF (r__law_set_of CA) (aCons (mBin ixD (mVar 0) (mC (.int 2))) aNil)) aNil)))))))
def g__law_condition (CA : Ly) : MF := body 1 (m__law_condition CA)
def r__law_condition (CA : Ly) : MF := ar 1 (g__law_condition CA)
theorem sc__law_condition : FnScope ["tree"] ["tree"] (defScope s__law_condition) := C8.fnScope_by (by decide +kernel)
theorem F__law_condition (h : DX.Ht dat K mg base CA) : DL.FnR P w K mg base (L2.CX P w) 29 (He.fAd K ("_law_condition", none)) (spR K CA (r__law_condition CA)) := by
  obtain ⟨fd, FD⟩ := h.fn 37
  exact fn_all (sf_of FD sc__law_condition fun cdv A outer s H E hr fr =>
  (sb_cons (ss_if (st_cmp (dop_eqD hr.u64) (se_ix (se_var (i := 0)) se_int) se_str (by rfl)) (sb_one (ss_ret (se_cm0 fr.tk (h.cr 1) (h.cm 6) (F_Filter_always (P := P) (w := w) (base := base) h) (hr.mono (k := 28) (by decide)) (se_glob (by rfl) (h.gC 1 13))))) sb_nil)
  (sb_cons (ss_if (st_cmp (dop_eqD hr.u64) (se_ix (se_var (i := 0)) se_int) se_str (by rfl)) (sb_one (ss_ret (se_cm0 fr.tk (h.cr 1) (h.cm 7) (F_Filter_never (P := P) (w := w) (base := base) h) (hr.mono (k := 28) (by decide)) (se_glob (by rfl) (h.gC 1 13))))) sb_nil)
  (sb_cons (ss_if (st_cmp (dop_eqD hr.u64) (se_ix (se_var (i := 0)) se_int) se_str (by rfl)) (sb_one (ss_ret (se_cm fr.tk (h.cr 1) (h.cm 5) (F_Filter_missing (P := P) (w := w) (base := base) h) (hr.mono (k := 28) (by decide)) (se_glob (by rfl) (h.gC 1 13)) (sa_cons (se_ix (se_var (i := 0)) se_int) sa_nil)))) sb_nil)
  (sb_one (ss_ret (se_cm fr.tk (h.cr 1) (h.cm 4) (F_Filter_within (P := P) (w := w) (base := base) h) (hr.mono (k := 28) (by decide)) (se_glob (by rfl) (h.gC 1 13)) (sa_cons (se_ix (se_var (i := 0)) se_int) (sa_cons (se_callG (df_fn fr.tk (F__law_set_of (P := P) (w := w) (base := base) h) (hr.mono (k := 6) (by decide)) (h.kp 18)) (by rfl) (h.g 18) (sa_cons (se_ix (se_var (i := 0)) se_int) sa_nil)) sa_nil))))))))) (FD.bindsN fun _ _ _ _ _ _ us hl => match us, hl with | [_], _ => rfl)
abbrev s__law_next : Stmt := top 35
def m__law_next (CA : Ly) : MS :=
  (mSeq (mPar2 2 3 (aCons (mF (r__law_draw_b CA) (aCons (mVar 0) (aCons (mCB (un1 lenD) (aCons (mVar 1) aNil)) aNil))) (aCons (mF (r__law_draw_b CA) (aCons (mVar 0) (aCons (mCB (un1 lenD) (aCons (mVar 1) aNil)) aNil))) aNil)))
  (mSeq (mAsg (mF (r__law_draw_b CA) (aCons (mVar 0) (aCons (mC (.int 7)) aNil))) (gN 4))
  (mSeq (mIfS (mTest (mBin ltI (mVar 4) (mC (.int 2)))) (mRet (mTup (aCons (mC (.str "and")) (aCons (mVar 2) (aCons (mVar 3) (aCons (mTup (aCons (mC (.str "and")) (aCons (mBin ixD (mVar 1) (mVar 2)) (aCons (mBin ixD (mVar 1) (mVar 3)) aNil)))) aNil)))))) mSkip)
  (mSeq (mIfS (mTest (mBin ltI (mVar 4) (mC (.int 4)))) (mRet (mTup (aCons (mC (.str "or")) (aCons (mVar 2) (aCons (mVar 3) (aCons (mTup (aCons (mC (.str "or")) (aCons (mBin ixD (mVar 1) (mVar 2)) (aCons (mBin ixD (mVar 1) (mVar 3)) aNil)))) aNil)))))) mSkip)
  (mSeq (mIfS (mTest (mBin eqD (mVar 4) (mC (.int 4)))) (mRet (mTup (aCons (mC (.str "not")) (aCons (mVar 2) (aCons (mVar 2) (aCons (mTup (aCons (mC (.str "not")) (aCons (mBin ixD (mVar 1) (mVar 2)) aNil))) aNil)))))) mSkip)
  (mSeq (mIfS (mTest (mBin eqD (mVar 4) (mC (.int 5)))) (mRet (mTup (aCons (mC (.str "and")) (aCons (mVar 2) (aCons (mVar 2) (aCons (mTup (aCons (mC (.str "and")) (aCons (mBin ixD (mVar 1) (mVar 2)) (aCons (mBin ixD (mVar 1) (mVar 2)) aNil)))) aNil)))))) mSkip)
  (mRet (mTup (aCons (mC (.str "twice")) (aCons (mVar 2) (aCons (mVar 2) (aCons (mTup (aCons (mC (.str "not")) (aCons (mTup (aCons (mC (.str "not")) (aCons (mBin ixD (mVar 1) (mVar 2)) aNil))) aNil))) aNil))))))))))))
def g__law_next (CA : Ly) : MF := body 5 (m__law_next CA)
def r__law_next (CA : Ly) : MF := ar 2 (g__law_next CA)
theorem sc__law_next : FnScope ["pen", "trees", "at", "other", "pick"] ["pen", "trees"] (defScope s__law_next) := C8.fnScope_by (by decide +kernel)
theorem F__law_next (h : DX.Ht dat K mg base CA) : DL.FnR P w K mg base (L2.CX P w) 2 (He.fAd K ("_law_next", none)) (spR K CA (r__law_next CA)) := by
  obtain ⟨fd, FD⟩ := h.fn 38
  exact fn_all (sf_of FD sc__law_next fun cdv A outer s H E hr fr =>
  (sb_cons (ss_par2 2 3 fr.calm sc__law_next.nd (sa_cons (se_callG (df_fn fr.tk (F__law_draw_b (P := P) (w := w) (base := base) h) (hr.mono (k := 1) (by decide)) (h.kp 27)) (by rfl) (h.g 27) (sa_cons (se_var (i := 0)) (sa_cons (se_callB dc_len (by rfl) (h.b 0) (by rfl) (sa_cons (se_var (i := 1)) sa_nil)) sa_nil))) (sa_cons (se_callG (df_fn fr.tk (F__law_draw_b (P := P) (w := w) (base := base) h) (hr.mono (k := 1) (by decide)) (h.kp 27)) (by rfl) (h.g 27) (sa_cons (se_var (i := 0)) (sa_cons (se_callB dc_len (by rfl) (h.b 0) (by rfl) (sa_cons (se_var (i := 1)) sa_nil)) sa_nil))) sa_nil)))
  (sb_cons (ss_set (i := 4) (se_callG (df_fn fr.tk (F__law_draw_b (P := P) (w := w) (base := base) h) (hr.mono (k := 1) (by decide)) (h.kp 27)) (by rfl) (h.g 27) (sa_cons (se_var (i := 0)) (sa_cons se_int sa_nil))) sc__law_next.nd)
  (sb_cons (ss_if (st_cmp dop_ltI (se_var (i := 4)) se_int (by rfl)) (sb_one (ss_ret (se_tup (sa_cons se_str (sa_cons (se_var (i := 2)) (sa_cons (se_var (i := 3)) (sa_cons (se_tup (sa_cons se_str (sa_cons (se_ix (se_var (i := 1)) (se_var (i := 2))) (sa_cons (se_ix (se_var (i := 1)) (se_var (i := 3))) sa_nil)))) sa_nil))))))) sb_nil)
  (sb_cons (ss_if (st_cmp dop_ltI (se_var (i := 4)) se_int (by rfl)) (sb_one (ss_ret (se_tup (sa_cons se_str (sa_cons (se_var (i := 2)) (sa_cons (se_var (i := 3)) (sa_cons (se_tup (sa_cons se_str (sa_cons (se_ix (se_var (i := 1)) (se_var (i := 2))) (sa_cons (se_ix (se_var (i := 1)) (se_var (i := 3))) sa_nil)))) sa_nil))))))) sb_nil)
  (sb_cons (ss_if (st_cmp (dop_eqD hr.u64) (se_var (i := 4)) se_int (by rfl)) (sb_one (ss_ret (se_tup (sa_cons se_str (sa_cons (se_var (i := 2)) (sa_cons (se_var (i := 2)) (sa_cons (se_tup (sa_cons se_str (sa_cons (se_ix (se_var (i := 1)) (se_var (i := 2))) sa_nil))) sa_nil))))))) sb_nil)
  (sb_cons (ss_if (st_cmp (dop_eqD hr.u64) (se_var (i := 4)) se_int (by rfl)) (sb_one (ss_ret (se_tup (sa_cons se_str (sa_cons (se_var (i := 2)) (sa_cons (se_var (i := 2)) (sa_cons (se_tup (sa_cons se_str (sa_cons (se_ix (se_var (i := 1)) (se_var (i := 2))) (sa_cons (se_ix (se_var (i := 1)) (se_var (i := 2))) sa_nil)))) sa_nil))))))) sb_nil)
  (sb_one (ss_ret (se_tup (sa_cons se_str (sa_cons (se_var (i := 2)) (sa_cons (se_var (i := 2)) (sa_cons (se_tup (sa_cons se_str (sa_cons (se_tup (sa_cons se_str (sa_cons (se_ix (se_var (i := 1)) (se_var (i := 2))) sa_nil))) sa_nil))) sa_nil)))))))))))))) (FD.bindsN fun _ _ _ _ _ _ us hl => match us, hl with | [_, _], _ => rfl)
abbrev s__law_built_b : Stmt := top 36
def m__law_built_b (CA : Ly) : MS :=
  (mSeq (mIfS (mTest (mBin eqD (mVar 1) (mC (.str "and")))) (mRet (mBin (fun x y bx => noX (binC 1 (r_Filter___and__ CA) x y bx)) (mBin ixD (mVar 0) (mVar 2)) (mBin ixD (mVar 0) (mVar 3)))) mSkip)
  (mSeq (mIfS (mTest (mBin eqD (mVar 1) (mC (.str "or")))) (mRet (mBin (fun x y bx => noX (binC 1 (r_Filter___or__ CA) x y bx)) (mBin ixD (mVar 0) (mVar 2)) (mBin ixD (mVar 0) (mVar 3)))) mSkip)
  (mRet (mIf (mTest (mBin eqD (mVar 1) (mC (.str "not")))) (mUn (fun x bx => noX (unC 1 (r_Filter___invert__ CA) x bx)) (mBin ixD (mVar 0) (mVar 2))) (mUn (fun x bx => noX (unC 1 (r_Filter___invert__ CA) x bx)) (mUn (fun x bx => noX (unC 1 (r_Filter___invert__ CA) x bx)) (mBin ixD (mVar 0) (mVar 2))))))))
def g__law_built_b (CA : Ly) : MF := body 4 (m__law_built_b CA)
def r__law_built_b (CA : Ly) : MF := ar 4 (g__law_built_b CA)
theorem sc__law_built_b : FnScope ["filters", "word", "at", "other"] ["filters", "word", "at", "other"] (defScope s__law_built_b) := C8.fnScope_by (by decide +kernel)
theorem F__law_built_b (h : DX.Ht dat K mg base CA) : DL.FnR P w K mg base (L2.CX P w) 29 (He.fAd K ("_law_built_b", none)) (spR K CA (r__law_built_b CA)) := by
  obtain ⟨fd, FD⟩ := h.fn 39
  exact fn_all (sf_of FD sc__law_built_b fun cdv A outer s H E hr fr =>
  (sb_cons (ss_if (st_cmp (dop_eqD hr.u64) (se_var (i := 1)) se_str (by rfl)) (sb_one (ss_ret (se_bin (dop_binC (c := 1) (h.sf 1) (h.fd 3) (h.ff 3) (F_Filter___and__ (P := P) (w := w) (base := base) h) (hr.mono (k := 28) (by decide))) (se_ix (se_var (i := 0)) (se_var (i := 2))) (se_ix (se_var (i := 0)) (se_var (i := 3)))))) sb_nil)
  (sb_cons (ss_if (st_cmp (dop_eqD hr.u64) (se_var (i := 1)) se_str (by rfl)) (sb_one (ss_ret (se_bin (dop_binC (c := 1) (h.sf 1) (h.fd 4) (h.ff 4) (F_Filter___or__ (P := P) (w := w) (base := base) h) (hr.mono (k := 28) (by decide))) (se_ix (se_var (i := 0)) (se_var (i := 2))) (se_ix (se_var (i := 0)) (se_var (i := 3)))))) sb_nil)
  (sb_one (ss_ret (se_if (st_cmp (dop_eqD hr.u64) (se_var (i := 1)) se_str (by rfl)) (se_un (dun_invC (c := 1) (h.fd 5) (h.ff 5) (F_Filter___invert__ (P := P) (w := w) (base := base) h) (hr.mono (k := 28) (by decide))) (se_ix (se_var (i := 0)) (se_var (i := 2)))) (se_un (dun_invC (c := 1) (h.fd 5) (h.ff 5) (F_Filter___invert__ (P := P) (w := w) (base := base) h) (hr.mono (k := 28) (by decide))) (se_un (dun_invC (c := 1) (h.fd 5) (h.ff 5) (F_Filter___invert__ (P := P) (w := w) (base := base) h) (hr.mono (k := 28) (by decide))) (se_ix (se_var (i := 0)) (se_var (i := 2))))))))))) (FD.bindsN fun _ _ _ _ _ _ us hl => match us, hl with | [_, _, _, _], _ => rfl)
abbrev s__law_deep : Stmt := top 37
def m__law_deep (CA : Ly) (rc : MF) : MS :=
  (mSeq (mIfS (mTest (mBin (inS false) (mBin ixD (mVar 0) (mC (.int 0))) (mTup (aCons (mC (.str "and")) (aCons (mC (.str "or")) aNil))))) (mRet (mBin addI (mC (.int 1)) (mCB (un2 max2) (aCons (mF rc (aCons (mBin ixD (mVar 0) (mC (.int 1))) aNil)) (aCons (mF rc (aCons (mBin ixD (mVar 0) (mC (.int 2))) aNil)) aNil))))) mSkip)
  (mRet (mIf (mTest (mBin eqD (mBin ixD (mVar 0) (mC (.int 0))) (mC (.str "not")))) (mBin addI (mC (.int 1)) (mF rc (aCons (mBin ixD (mVar 0) (mC (.int 1))) aNil))) (mC (.int 1)))))
def r__law_deep (CA : Ly) : Nat → MF
  | 0 => ar 1 (body 1 mStk)
  | j + 1 => ar 1 (body 1 (m__law_deep CA (r__law_deep CA j)))
theorem sc__law_deep : FnScope ["tree"] ["tree"] (defScope s__law_deep) := C8.fnScope_by (by decide +kernel)
theorem F__law_deep (h : DX.Ht dat K mg base CA) : ∀ j : Nat, DL.FnR P w K mg base (L2.CX P w) (1 + j) (He.fAd K ("_law_deep", none)) (spR K CA (r__law_deep CA j))
  | 0 => by
    obtain ⟨fd, FD⟩ := h.fn 40
    exact fn_all (sf_of (k := 0) FD sc__law_deep fun cdv A outer s H E hr fr => sb_stk) (FD.bindsN fun _ _ _ _ _ _ us hl => match us, hl with | [_], _ => rfl)
  | j + 1 => by
    have ih := F__law_deep h j
    obtain ⟨fd, FD⟩ := h.fn 40
    exact fn_all (sf_of (k := 1 + j) FD sc__law_deep fun cdv A outer s H E hr fr =>
  (sb_cons (ss_if (st_cmp dop_inS (se_ix (se_var (i := 0)) se_int) (se_tup (sa_cons se_str (sa_cons se_str sa_nil))) (by rfl)) (sb_one (ss_ret (se_bin dop_addI se_int (se_callB (dc_max2 fr.calm) (by rfl) (h.b 7) (by rfl) (sa_cons (se_callG (df_fn fr.tk ih (hr.mono (k := 1 + j) (by omega)) (h.kp 33)) (by rfl) (h.g 33) (sa_cons (se_ix (se_var (i := 0)) se_int) sa_nil)) (sa_cons (se_callG (df_fn fr.tk ih (hr.mono (k := 1 + j) (by omega)) (h.kp 33)) (by rfl) (h.g 33) (sa_cons (se_ix (se_var (i := 0)) se_int) sa_nil)) sa_nil)))))) sb_nil)
  (sb_one (ss_ret (se_if (st_cmp (dop_eqD hr.u64) (se_ix (se_var (i := 0)) se_int) se_str (by rfl)) (se_bin dop_addI se_int (se_callG (df_fn fr.tk ih (hr.mono (k := 1 + j) (by omega)) (h.kp 33)) (by rfl) (h.g 33) (sa_cons (se_ix (se_var (i := 0)) se_int) sa_nil))) se_int))))) (FD.bindsN fun _ _ _ _ _ _ us hl => match us, hl with | [_], _ => rfl)
abbrev s__law_many : Stmt := top 38
def m__law_many (CA : Ly) (rc : MF) : MS :=
  (mSeq (mIfS (mTest (mBin (inS false) (mBin ixD (mVar 0) (mC (.int 0))) (mTup (aCons (mC (.str "and")) (aCons (mC (.str "or")) aNil))))) (mRet (mBin addI (mF rc (aCons (mBin ixD (mVar 0) (mC (.int 1))) aNil)) (mF rc (aCons (mBin ixD (mVar 0) (mC (.int 2))) aNil)))) mSkip)
  (mRet (mIf (mTest (mBin eqD (mBin ixD (mVar 0) (mC (.int 0))) (mC (.str "not")))) (mF rc (aCons (mBin ixD (mVar 0) (mC (.int 1))) aNil)) (mC (.int 1)))))
def r__law_many (CA : Ly) : Nat → MF
  | 0 => ar 1 (body 1 mStk)
  | j + 1 => ar 1 (body 1 (m__law_many CA (r__law_many CA j)))
theorem sc__law_many : FnScope ["tree"] ["tree"] (defScope s__law_many) := C8.fnScope_by (by decide +kernel)
theorem F__law_many (h : DX.Ht dat K mg base CA) : ∀ j : Nat, DL.FnR P w K mg base (L2.CX P w) (1 + j) (He.fAd K ("_law_many", none)) (spR K CA (r__law_many CA j))
  | 0 => by
    obtain ⟨fd, FD⟩ := h.fn 41
    exact fn_all (sf_of (k := 0) FD sc__law_many fun cdv A outer s H E hr fr => sb_stk) (FD.bindsN fun _ _ _ _ _ _ us hl => match us, hl with | [_], _ => rfl)
  | j + 1 => by
    have ih := F__law_many h j
    obtain ⟨fd, FD⟩ := h.fn 41
    exact fn_all (sf_of (k := 1 + j) FD sc__law_many fun cdv A outer s H E hr fr =>
  (sb_cons (ss_if (st_cmp dop_inS (se_ix (se_var (i := 0)) se_int) (se_tup (sa_cons se_str (sa_cons se_str sa_nil))) (by rfl)) (sb_one (ss_ret (se_bin dop_addI (se_callG (df_fn fr.tk ih (hr.mono (k := 1 + j) (by omega)) (h.kp 34)) (by rfl) (h.g 34) (sa_cons (se_ix (se_var (i := 0)) se_int) sa_nil)) (se_callG (df_fn fr.tk ih (hr.mono (k := 1 + j) (by omega)) (h.kp 34)) (by rfl) (h.g 34) (sa_cons (se_ix (se_var (i := 0)) se_int) sa_nil))))) sb_nil)
  (sb_one (ss_ret (se_if (st_cmp (dop_eqD hr.u64) (se_ix (se_var (i := 0)) se_int) se_str (by rfl)) (se_callG (df_fn fr.tk ih (hr.mono (k := 1 + j) (by omega)) (h.kp 34)) (by rfl) (h.g 34) (sa_cons (se_ix (se_var (i := 0)) se_int) sa_nil)) se_int))))) (FD.bindsN fun _ _ _ _ _ _ us hl => match us, hl with | [_], _ => rfl)
abbrev s__law_due_said : Stmt := top 39
def m__law_due_said (CA : Ly) : MS :=
  (mSeq (mBox (mLst aNil) 1)
  (mSeq (mFor (iSeq (mLst (aCons (mC .non) (aCons (mC (.int 0)) (aCons (mC (.int 1)) (aCons (mBin subI (mC (.int 0)) (mC (.int 1))) (aCons (mC (.int 4)) (aCons (mBin powI (mC (.int 10)) (mC (.int 12))) aNil)))))))) (gN 2) (mFor (iSeq (mLst (aCons (mC .non) (aCons (mC (.int 0)) (aCons (mC (.int 3)) aNil))))) (gN 3) (mExpr (mBm appD (mVar 1) (aCons (mBin ixD (mLst (aCons (mC (.bl false)) (aCons (mC .non) (aCons (mC (.bl true)) aNil)))) (mCB (un1 intD) (aCons (mF (r__law_numbered CA 24) (aCons (mVar 0) (aCons (mDisp2 (.inr "a") (.inr "b") (mVar 2) (mVar 3)) aNil))) aNil))) aNil)))))
  (mRet (mCB (un1 reprA) (aCons (mVar 1) aNil)))))
def g__law_due_said (CA : Ly) : MF := body 4 (m__law_due_said CA)
def r__law_due_said (CA : Ly) : MF := ar 1 (g__law_due_said CA)
theorem sc__law_due_said : FnScope ["tree", "found", "value", "other"] ["tree"] (defScope s__law_due_said) := C8.fnScope_by (by decide +kernel)
theorem F__law_due_said (h : DX.Ht dat K mg base CA) : DL.FnR P w K mg base (L2.CX P w) 26 (He.fAd K ("_law_due_said", none)) (spR K CA (r__law_due_said CA)) := by
  obtain ⟨fd, FD⟩ := h.fn 42
  exact fn_all (sf_of FD sc__law_due_said fun cdv A outer s H E hr fr =>
  (sb_cons (ss_box (i := 1) (se_lst sa_nil) sc__law_due_said.nd)
  (sb_cons (ss_for fr (si_seq (se_lst (sa_cons se_non (sa_cons se_int (sa_cons se_int (sa_cons (se_bin dop_subI se_int se_int) (sa_cons se_int (sa_cons (se_bin dop_powI se_int se_int) sa_nil)))))))) (sg_name (i := 2) sc__law_due_said.nd) (sb_one (ss_for fr (si_seq (se_lst (sa_cons se_non (sa_cons se_int (sa_cons se_int sa_nil))))) (sg_name (i := 3) sc__law_due_said.nd) (sb_one (ss_expr (se_bm F.plainAttrs_list F.slot_list_append (by rfl) dml_append (se_var (i := 1)) (sa_cons (se_ix (se_lst (sa_cons se_bl (sa_cons se_non (sa_cons se_bl sa_nil)))) (se_callTy dc_int (by rfl) (h.b 2) (by rfl) (sa_cons (se_callG (df_fn fr.tk (F__law_numbered (P := P) (w := w) (base := base) h 24) (hr.mono (k := 25) (by decide)) (h.kp 19)) (by rfl) (h.g 19) (sa_cons (se_var (i := 0)) (sa_cons (se_disp2 (by decide) (se_var (i := 2)) (se_var (i := 3))) sa_nil))) sa_nil))) sa_nil)))))))
  (sb_one (ss_ret (se_callB (dc_reprA hr.gd hr.u64) (by rfl) (h.b 15) (by rfl) (sa_cons (se_var (i := 1)) sa_nil))))))) (FD.bindsN fun _ _ _ _ _ _ us hl => match us, hl with | [_], _ => rfl)
abbrev s__law_said : Stmt := top 40
def m__law_said (CA : Ly) : MS :=
  (mSeq (mBox (mLst aNil) 1)
  (mSeq (mFor (iSeq (mLst (aCons (mC .non) (aCons (mC (.int 0)) (aCons (mC (.int 1)) (aCons (mBin subI (mC (.int 0)) (mC (.int 1))) (aCons (mC (.int 4)) (aCons (mBin powI (mC (.int 10)) (mC (.int 12))) aNil)))))))) (gN 2) (mFor (iSeq (mLst (aCons (mC .non) (aCons (mC (.int 0)) (aCons (mC (.int 3)) aNil))))) (gN 3) (mExpr (mBm appD (mVar 1) (aCons (mCI 1 (r_Filter___call__ CA) 0 (aCons (mDisp2 (.inr "a") (.inr "b") (mVar 2) (mVar 3)) aNil)) aNil)))))
  (mRet (mCB (un1 reprA) (aCons (mVar 1) aNil)))))
def g__law_said (CA : Ly) : MF := body 4 (m__law_said CA)
def r__law_said (CA : Ly) : MF := ar 1 (g__law_said CA)
theorem sc__law_said : FnScope ["made", "found", "value", "other"] ["made"] (defScope s__law_said) := C8.fnScope_by (by decide +kernel)
theorem F__law_said (h : DX.Ht dat K mg base CA) : DL.FnR P w K mg base (L2.CX P w) 28 (He.fAd K ("_law_said", none)) (spR K CA (r__law_said CA)) := by
  obtain ⟨fd, FD⟩ := h.fn 43
  exact fn_all (sf_of FD sc__law_said fun cdv A outer s H E hr fr =>
  (sb_cons (ss_box (i := 1) (se_lst sa_nil) sc__law_said.nd)
  (sb_cons (ss_for fr (si_seq (se_lst (sa_cons se_non (sa_cons se_int (sa_cons se_int (sa_cons (se_bin dop_subI se_int se_int) (sa_cons se_int (sa_cons (se_bin dop_powI se_int se_int) sa_nil)))))))) (sg_name (i := 2) sc__law_said.nd) (sb_one (ss_for fr (si_seq (se_lst (sa_cons se_non (sa_cons se_int (sa_cons se_int sa_nil))))) (sg_name (i := 3) sc__law_said.nd) (sb_one (ss_expr (se_bm F.plainAttrs_list F.slot_list_append (by rfl) dml_append (se_var (i := 1)) (sa_cons (se_callI (c := 1) (i := 0) (h.fd 7) (h.ff 7) (h.fi 0) (F_Filter___call__ (P := P) (w := w) (base := base) h) (hr.mono (k := 27) (by decide)) (by rfl) (.inl (by rfl)) (sa_cons (se_disp2 (by decide) (se_var (i := 2)) (se_var (i := 3))) sa_nil)) sa_nil)))))))
  (sb_one (ss_ret (se_callB (dc_reprA hr.gd hr.u64) (by rfl) (h.b 15) (by rfl) (sa_cons (se_var (i := 1)) sa_nil))))))) (FD.bindsN fun _ _ _ _ _ _ us hl => match us, hl with | [_], _ => rfl)
abbrev s__law_alike : Stmt := top 41
def m__law_alike (CA : Ly) : MS :=
  (mRet (mBin eqD (mLst (aCons (mBin (fun x y bx => noX (eqC dat.cs 1 (r_Filter___eq__ CA) x y bx)) (mVar 0) (mVar 1)) (aCons (mBin (fun x y bx => noX (eqC dat.cs 1 (r_Filter___eq__ CA) x y bx)) (mVar 1) (mVar 0)) (aCons (mBin (fun x y bx => noX (neC dat.cs 1 (r_Filter___eq__ CA) x y bx)) (mVar 0) (mVar 1)) (aCons (mBin (fun x y bx => noX (neC dat.cs 1 (r_Filter___eq__ CA) x y bx)) (mVar 1) (mVar 0)) aNil))))) (mLst (aCons (mVar 2) (aCons (mVar 2) (aCons (mNotV (mVar 2)) (aCons (mNotV (mVar 2)) aNil)))))))
def g__law_alike (CA : Ly) : MF := body 3 (m__law_alike CA)
def r__law_alike (CA : Ly) : MF := ar 3 (g__law_alike CA)
theorem sc__law_alike : FnScope ["one", "other", "due"] ["one", "other", "due"] (defScope s__law_alike) := C8.fnScope_by (by decide +kernel)
theorem F__law_alike (h : DX.Ht dat K mg base CA) : DL.FnR P w K mg base (L2.CX P w) 3 (He.fAd K ("_law_alike", none)) (spR K CA (r__law_alike CA)) := by
  obtain ⟨fd, FD⟩ := h.fn 44
  exact fn_all (sf_of FD sc__law_alike fun cdv A outer s H E hr fr =>
  (sb_one (ss_ret (se_cmp (dop_eqD hr.u64) (se_lst (sa_cons (se_cmp (dop_eqC h.kcs (h.eq 0) (F_Filter___eq__ (P := P) (w := w) (base := base) h) (hr.mono (k := 1) (by decide))) (se_var (i := 0)) (se_var (i := 1)) (by rfl)) (sa_cons (se_cmp (dop_eqC h.kcs (h.eq 0) (F_Filter___eq__ (P := P) (w := w) (base := base) h) (hr.mono (k := 1) (by decide))) (se_var (i := 1)) (se_var (i := 0)) (by rfl)) (sa_cons (se_cmp (dop_neC h.kcs (h.eq 0) (F_Filter___eq__ (P := P) (w := w) (base := base) h) (hr.mono (k := 2) (by decide))) (se_var (i := 0)) (se_var (i := 1)) (by rfl)) (sa_cons (se_cmp (dop_neC h.kcs (h.eq 0) (F_Filter___eq__ (P := P) (w := w) (base := base) h) (hr.mono (k := 2) (by decide))) (se_var (i := 1)) (se_var (i := 0)) (by rfl)) sa_nil))))) (se_lst (sa_cons (se_var (i := 2)) (sa_cons (se_var (i := 2)) (sa_cons (se_not (se_var (i := 2))) (sa_cons (se_not (se_var (i := 2))) sa_nil))))) (by rfl))))) (FD.bindsN fun _ _ _ _ _ _ us hl => match us, hl with | [_, _, _], _ => rfl)
abbrev s__law_part_two : Stmt := top 42
def m__law_part_two (CA : Ly) : MS :=
  (mSeq (mBox (mF (r__law_pen CA) (aCons (mVar 0) aNil)) 1)
  (mSeq (mBox (mComp (iRng1M (mC (.int 3))) (([("turn", 5)] : List (PySem.Str × Nat)).map (·.2)) (gN 5) mYes (mF (r__law_leaf_b CA) (aCons (mVar 1) (aCons (mLst (aCons (mC (.str "a")) (aCons (mC (.str "b")) aNil))) aNil)))) 2)
  (mSeq (mBox (mCompB 99 (mVar 2) (([("tree", 12)] : List (PySem.Str × Nat)).map (·.2)) (gN 12) mYes (mF (r__law_condition CA) (aCons (mVar 12) aNil))) 3)
  (mSeq (mBox (mCompB 99 (mVar 3) (([("made", 7)] : List (PySem.Str × Nat)).map (·.2)) (gN 7) mYes (mF (r__law_said CA) (aCons (mVar 7) aNil))) 4)
  (mSeq (mFor (iRng1M (mC (.int 11))) (gN 5) (mSeq (mAsg (mF (r__law_next CA) (aCons (mVar 1) (aCons (mVar 2) aNil))) (gTup [(gN 10), (gN 6), (gN 11), (gN 12)]))
   (mSeq (mIfS (mOr (mTest (mBin gtI (mF (r__law_deep CA 24) (aCons (mVar 12) aNil)) (mC (.int 20)))) (mTest (mBin gtI (mF (r__law_many CA 24) (aCons (mVar 12) aNil)) (mC (.int 60))))) (mSeq (mAsg (mF (r__law_leaf_b CA) (aCons (mVar 1) (aCons (mLst (aCons (mC (.str "b")) (aCons (mC (.str "a")) aNil))) aNil))) (gN 12))
    (mAsg (mF (r__law_condition CA) (aCons (mVar 12) aNil)) (gN 7))) (mAsg (mF (r__law_built_b CA) (aCons (mVar 3) (aCons (mVar 10) (aCons (mVar 6) (aCons (mVar 11) aNil))))) (gN 7)))
   (mSeq (mExpr (mBm appD (mVar 3) (aCons (mVar 7) aNil)))
   (mSeq (mExpr (mBm appD (mVar 2) (aCons (mVar 12) aNil)))
   (mExpr (mBm appD (mVar 4) (aCons (mF (r__law_said CA) (aCons (mVar 7) aNil)) aNil))))))))
  (mSeq (mForE 99 (mVar 3) (gTup [(gN 6), (gN 7)]) (mSeq (mIfS (mOr (mTest (mBin neD (mUn (fldD "tree" [1]) (mVar 7)) (mBin ixD (mVar 2) (mVar 6)))) (mOr (mTest (mBin neS (mF (r__law_said CA) (aCons (mVar 7) aNil)) (mBin ixD (mVar 4) (mVar 6)))) (mTest (mBin neS (mBin ixD (mVar 4) (mVar 6)) (mF (r__law_due_said CA) (aCons (mBin ixD (mVar 2) (mVar 6)) aNil)))))) (mRet (mC (.bl false))) mSkip)
   (mSeq (mFor (iRng1M (mCB (un1 lenD) (aCons (mVar 3) aNil))) (gN 11) (mIfS (mNot (mTest (mF (r__law_alike CA) (aCons (mVar 7) (aCons (mBin ixD (mVar 3) (mVar 11)) (aCons (mBin eqD (mBin ixD (mVar 2) (mVar 6)) (mBin ixD (mVar 2) (mVar 11))) aNil)))))) (mRet (mC (.bl false))) mSkip))
   (mFor (iSeq (mLst (aCons (mC .non) (aCons (mBin ixD (mVar 2) (mVar 6)) (aCons (mC (.bl true)) (aCons (mC (.int 0)) (aCons (mC (.str "always")) (aCons (mTup aNil) aNil)))))))) (gN 13) (mIfS (mNot (mTest (mF (r__law_alike CA) (aCons (mVar 7) (aCons (mVar 13) (aCons (mC (.bl false)) aNil)))))) (mRet (mC (.bl false))) mSkip)))))
  (mSeq (mAsg (mCM (CA 0) (r_Ranges_of CA) (mC (.adr (CA 0))) (aCons (mC (.int 3)) (aCons (mC (.int 1)) aNil))) (gN 8))
  (mSeq (mAsg (mCM (CA 1) (r_Filter_within CA) (mC (.adr (CA 1))) (aCons (mC (.str "a")) (aCons (mBin (fun x y bx => noX (binC 0 (r_Ranges___or__ CA) x y bx)) (mVar 8) (mCM (CA 0) (r_Ranges_of CA) (mC (.adr (CA 0))) (aCons (mC (.int 2)) aNil))) aNil))) (gN 9))
  (mSeq (mIfS (mOr (mNot (mTest (mF (r__law_alike CA) (aCons (mVar 9) (aCons (mCM (CA 1) (r_Filter_within CA) (mC (.adr (CA 1))) (aCons (mC (.str "a")) (aCons (mCM (CA 0) (r_Ranges_between CA) (mC (.adr (CA 0))) (aCons (mC (.int 1)) (aCons (mC (.int 3)) aNil))) aNil))) (aCons (mC (.bl true)) aNil)))))) (mTest (mBin neD (mUn (fldD "tree" [1]) (mVar 9)) (mTup (aCons (mC (.str "within")) (aCons (mC (.str "a")) (aCons (mTup (aCons (mTup (aCons (mC (.int 1)) (aCons (mC (.int 3)) aNil))) aNil)) aNil))))))) (mRet (mC (.bl false))) mSkip)
  (mSeq (mIfS (mOr (mTest (mBin neD (mUn (fldD "parts" [0]) (mVar 8)) (mTup (aCons (mTup (aCons (mC (.int 1)) (aCons (mC (.int 1)) aNil))) (aCons (mTup (aCons (mC (.int 3)) (aCons (mC (.int 3)) aNil))) aNil))))) (mTest (mF (r__law_alike CA) (aCons (mVar 9) (aCons (mCM (CA 1) (r_Filter_within CA) (mC (.adr (CA 1))) (aCons (mC (.str "b")) (aCons (mCM (CA 0) (r_Ranges_between CA) (mC (.adr (CA 0))) (aCons (mC (.int 1)) (aCons (mC (.int 3)) aNil))) aNil))) (aCons (mC (.bl true)) aNil)))))) (mRet (mC (.bl false))) mSkip)
  (mRet (mAndV (mBin eqD (mUn (fldD "columns" [1]) (mBin (fun x y bx => noX (binC 1 (r_Filter___and__ CA) x y bx)) (mVar 9) (mCM (CA 1) (r_Filter_never CA) (mC (.adr (CA 1))) aNil))) (mTup (aCons (mC (.str "a")) aNil))) (mBin eqD (mUn (fldD "columns" [1]) (mUn (fun x bx => noX (unC 1 (r_Filter___invert__ CA) x bx)) (mCM (CA 1) (r_Filter_always CA) (mC (.adr (CA 1))) aNil))) (mTup aNil))))))))))))))
def g__law_part_two (CA : Ly) : MF := body 14 (m__law_part_two CA)
def r__law_part_two (CA : Ly) : MF := ar 1 (g__law_part_two CA)
theorem sc__law_part_two : FnScope ["script", "pen", "trees", "filters", "said", "turn", "at", "made", "several", "one", "word", "other", "tree", "odd"] ["script"] (defScope s__law_part_two) := C8.fnScope_by (by decide +kernel)
theorem F__law_part_two (h : DX.Ht dat K mg base CA) : DL.FnR P w K mg base (L2.CX P w) 30 (He.fAd K ("_law_part_two", none)) (spR K CA (r__law_part_two CA)) := by
  obtain ⟨fd, FD⟩ := h.fn 45
  exact fn_all (sf_of FD sc__law_part_two fun cdv A outer s H E hr fr =>
  (sb_cons (ss_box (i := 1) (se_callG (df_fn fr.tk (F__law_pen (P := P) (w := w) (base := base) h) (hr.mono (k := 1) (by decide)) (h.kp 14)) (by rfl) (h.g 14) (sa_cons (se_var (i := 0)) sa_nil)) sc__law_part_two.nd)
  (sb_cons (ss_boxComp (i := 2) (own := [("turn", 5)]) fr.calm sc__law_part_two.nd (by rfl) (by rfl) (by rfl) (si_rng1 (by rfl) (h.b 10) se_int) (blkOk_by (by kernel_rfl)) (by decide) (fun s H C cl fp => (sg_name (i := 5) sc__law_part_two.nd)) (fun s H C cl fp => pts_no) (fun s H C cl fp => (se_callG (df_fn DL.takes0 (F__law_leaf_b (P := P) (w := w) (base := base) h) (hr.mono (k := 7) (by decide)) (h.kp 29)) (by rfl) (h.g 29) (sa_cons (se_var (i := 1)) (sa_cons (se_lst (sa_cons se_str (sa_cons se_str sa_nil))) sa_nil)))))
  (sb_cons (ss_boxCompB 99 (i := 3) (own := [("tree", 12)]) fr.calm sc__law_part_two.nd (by rfl) (by rfl) (by rfl) (se_var (i := 2)) (blkOk_by (by kernel_rfl)) (by decide) (fun s H C cl fp => (sg_name (i := 12) sc__law_part_two.nd)) (fun s H C cl fp => pts_no) (fun s H C cl fp => (se_callG (df_fn DL.takes0 (F__law_condition (P := P) (w := w) (base := base) h) (hr.mono (k := 29) (by decide)) (h.kp 30)) (by rfl) (h.g 30) (sa_cons (se_var (i := 12)) sa_nil))))
  (sb_cons (ss_boxCompB 99 (i := 4) (own := [("made", 7)]) fr.calm sc__law_part_two.nd (by rfl) (by rfl) (by rfl) (se_var (i := 3)) (blkOk_by (by kernel_rfl)) (by decide) (fun s H C cl fp => (sg_name (i := 7) sc__law_part_two.nd)) (fun s H C cl fp => pts_no) (fun s H C cl fp => (se_callG (df_fn DL.takes0 (F__law_said (P := P) (w := w) (base := base) h) (hr.mono (k := 28) (by decide)) (h.kp 36)) (by rfl) (h.g 36) (sa_cons (se_var (i := 7)) sa_nil))))
  (sb_cons (ss_for fr (si_rng1 (by rfl) (h.b 10) se_int) (sg_name (i := 5) sc__law_part_two.nd) (sb_cons (ss_asg (se_callG (df_fn fr.tk (F__law_next (P := P) (w := w) (base := base) h) (hr.mono (k := 2) (by decide)) (h.kp 31)) (by rfl) (h.g 31) (sa_cons (se_var (i := 1)) (sa_cons (se_var (i := 2)) sa_nil))) (sg_tup (gs := [(gN 10), (gN 6), (gN 11), (gN 12)]) fr.calm (sgs_cons (sg_name (i := 10) sc__law_part_two.nd) (sgs_cons (sg_name (i := 6) sc__law_part_two.nd) (sgs_cons (sg_name (i := 11) sc__law_part_two.nd) (sgs_cons (sg_name (i := 12) sc__law_part_two.nd) sgs_nil))))))
   (sb_cons (ss_if (SW.st' (sw_or (st_cmp dop_gtI (se_callG (df_fn fr.tk (F__law_deep (P := P) (w := w) (base := base) h 24) (hr.mono (k := 25) (by decide)) (h.kp 33)) (by rfl) (h.g 33) (sa_cons (se_var (i := 12)) sa_nil)) se_int (by rfl)) (sw_or1 (st_cmp dop_gtI (se_callG (df_fn fr.tk (F__law_many (P := P) (w := w) (base := base) h 24) (hr.mono (k := 25) (by decide)) (h.kp 34)) (by rfl) (h.g 34) (sa_cons (se_var (i := 12)) sa_nil)) se_int (by rfl))))) (sb_cons (ss_set (i := 12) (se_callG (df_fn fr.tk (F__law_leaf_b (P := P) (w := w) (base := base) h) (hr.mono (k := 7) (by decide)) (h.kp 29)) (by rfl) (h.g 29) (sa_cons (se_var (i := 1)) (sa_cons (se_lst (sa_cons se_str (sa_cons se_str sa_nil))) sa_nil))) sc__law_part_two.nd)
    (sb_one (ss_set (i := 7) (se_callG (df_fn fr.tk (F__law_condition (P := P) (w := w) (base := base) h) (hr.mono (k := 29) (by decide)) (h.kp 30)) (by rfl) (h.g 30) (sa_cons (se_var (i := 12)) sa_nil)) sc__law_part_two.nd))) (sb_one (ss_set (i := 7) (se_callG (df_fn fr.tk (F__law_built_b (P := P) (w := w) (base := base) h) (hr.mono (k := 29) (by decide)) (h.kp 32)) (by rfl) (h.g 32) (sa_cons (se_var (i := 3)) (sa_cons (se_var (i := 10)) (sa_cons (se_var (i := 6)) (sa_cons (se_var (i := 11)) sa_nil))))) sc__law_part_two.nd)))
   (sb_cons (ss_expr (se_bm F.plainAttrs_list F.slot_list_append (by rfl) dml_append (se_var (i := 3)) (sa_cons (se_var (i := 7)) sa_nil)))
   (sb_cons (ss_expr (se_bm F.plainAttrs_list F.slot_list_append (by rfl) dml_append (se_var (i := 2)) (sa_cons (se_var (i := 12)) sa_nil)))
   (sb_one (ss_expr (se_bm F.plainAttrs_list F.slot_list_append (by rfl) dml_append (se_var (i := 4)) (sa_cons (se_callG (df_fn fr.tk (F__law_said (P := P) (w := w) (base := base) h) (hr.mono (k := 28) (by decide)) (h.kp 36)) (by rfl) (h.g 36) (sa_cons (se_var (i := 7)) sa_nil)) sa_nil)))))))))
  (sb_cons (ss_forE 99 fr (by rfl) (h.b 11) (se_var (i := 3)) (sg_tup (gs := [(gN 6), (gN 7)]) fr.calm (sgs_cons (sg_name (i := 6) sc__law_part_two.nd) (sgs_cons (sg_name (i := 7) sc__law_part_two.nd) sgs_nil))) (sb_cons (ss_if (SW.st' (sw_or (st_cmp (dop_neD hr.u64) (se_fld (se_var (i := 7)) (h.na [1] "tree")) (se_ix (se_var (i := 2)) (se_var (i := 6))) (by rfl)) (sw_or (st_cmp dop_neS (se_callG (df_fn fr.tk (F__law_said (P := P) (w := w) (base := base) h) (hr.mono (k := 28) (by decide)) (h.kp 36)) (by rfl) (h.g 36) (sa_cons (se_var (i := 7)) sa_nil)) (se_ix (se_var (i := 4)) (se_var (i := 6))) (by rfl)) (sw_or1 (st_cmp dop_neS (se_ix (se_var (i := 4)) (se_var (i := 6))) (se_callG (df_fn fr.tk (F__law_due_said (P := P) (w := w) (base := base) h) (hr.mono (k := 26) (by decide)) (h.kp 35)) (by rfl) (h.g 35) (sa_cons (se_ix (se_var (i := 2)) (se_var (i := 6))) sa_nil)) (by rfl)))))) (sb_one (ss_ret se_bl)) sb_nil)
   (sb_cons (ss_for fr (si_rng1 (by rfl) (h.b 10) (se_callB dc_len (by rfl) (h.b 0) (by rfl) (sa_cons (se_var (i := 3)) sa_nil))) (sg_name (i := 11) sc__law_part_two.nd) (sb_one (ss_if (st_not (st_val (se_callG (df_fn fr.tk (F__law_alike (P := P) (w := w) (base := base) h) (hr.mono (k := 3) (by decide)) (h.kp 37)) (by rfl) (h.g 37) (sa_cons (se_var (i := 7)) (sa_cons (se_ix (se_var (i := 3)) (se_var (i := 11))) (sa_cons (se_cmp (dop_eqD hr.u64) (se_ix (se_var (i := 2)) (se_var (i := 6))) (se_ix (se_var (i := 2)) (se_var (i := 11))) (by rfl)) sa_nil)))))) (sb_one (ss_ret se_bl)) sb_nil)))
   (sb_one (ss_for fr (si_seq (se_lst (sa_cons se_non (sa_cons (se_ix (se_var (i := 2)) (se_var (i := 6))) (sa_cons se_bl (sa_cons se_int (sa_cons se_str (sa_cons (se_tup sa_nil) sa_nil)))))))) (sg_name (i := 13) sc__law_part_two.nd) (sb_one (ss_if (st_not (st_val (se_callG (df_fn fr.tk (F__law_alike (P := P) (w := w) (base := base) h) (hr.mono (k := 3) (by decide)) (h.kp 37)) (by rfl) (h.g 37) (sa_cons (se_var (i := 7)) (sa_cons (se_var (i := 13)) (sa_cons se_bl sa_nil)))))) (sb_one (ss_ret se_bl)) sb_nil)))))))
  (sb_cons (ss_set (i := 8) (se_cm fr.tk (h.cr 0) (h.cm 0) (F_Ranges_of (P := P) (w := w) (base := base) h) (hr.mono (k := 5) (by decide)) (se_glob (by rfl) (h.gC 0 9)) (sa_cons se_int (sa_cons se_int sa_nil))) sc__law_part_two.nd)
  (sb_cons (ss_set (i := 9) (se_cm fr.tk (h.cr 1) (h.cm 4) (F_Filter_within (P := P) (w := w) (base := base) h) (hr.mono (k := 28) (by decide)) (se_glob (by rfl) (h.gC 1 13)) (sa_cons se_str (sa_cons (se_bin (dop_binC (c := 0) (h.sf 0) (h.fd 0) (h.ff 0) (F_Ranges___or__ (P := P) (w := w) (base := base) h) (hr.mono (k := 5) (by decide))) (se_var (i := 8)) (se_cm fr.tk (h.cr 0) (h.cm 0) (F_Ranges_of (P := P) (w := w) (base := base) h) (hr.mono (k := 5) (by decide)) (se_glob (by rfl) (h.gC 0 9)) (sa_cons se_int sa_nil))) sa_nil))) sc__law_part_two.nd)
  (sb_cons (ss_if (SW.st' (sw_or (st_not (st_val (se_callG (df_fn fr.tk (F__law_alike (P := P) (w := w) (base := base) h) (hr.mono (k := 3) (by decide)) (h.kp 37)) (by rfl) (h.g 37) (sa_cons (se_var (i := 9)) (sa_cons (se_cm fr.tk (h.cr 1) (h.cm 4) (F_Filter_within (P := P) (w := w) (base := base) h) (hr.mono (k := 28) (by decide)) (se_glob (by rfl) (h.gC 1 13)) (sa_cons se_str (sa_cons (se_cm fr.tk (h.cr 0) (h.cm 1) (F_Ranges_between (P := P) (w := w) (base := base) h) (hr.mono (k := 5) (by decide)) (se_glob (by rfl) (h.gC 0 9)) (sa_cons se_int (sa_cons se_int sa_nil))) sa_nil))) (sa_cons se_bl sa_nil)))))) (sw_or1 (st_cmp (dop_neD hr.u64) (se_fld (se_var (i := 9)) (h.na [1] "tree")) (se_tup (sa_cons se_str (sa_cons se_str (sa_cons (se_tup (sa_cons (se_tup (sa_cons se_int (sa_cons se_int sa_nil))) sa_nil)) sa_nil)))) (by rfl))))) (sb_one (ss_ret se_bl)) sb_nil)
  (sb_cons (ss_if (SW.st' (sw_or (st_cmp (dop_neD hr.u64) (se_fld (se_var (i := 8)) (h.na [0] "parts")) (se_tup (sa_cons (se_tup (sa_cons se_int (sa_cons se_int sa_nil))) (sa_cons (se_tup (sa_cons se_int (sa_cons se_int sa_nil))) sa_nil))) (by rfl)) (sw_or1 (st_val (se_callG (df_fn fr.tk (F__law_alike (P := P) (w := w) (base := base) h) (hr.mono (k := 3) (by decide)) (h.kp 37)) (by rfl) (h.g 37) (sa_cons (se_var (i := 9)) (sa_cons (se_cm fr.tk (h.cr 1) (h.cm 4) (F_Filter_within (P := P) (w := w) (base := base) h) (hr.mono (k := 28) (by decide)) (se_glob (by rfl) (h.gC 1 13)) (sa_cons se_str (sa_cons (se_cm fr.tk (h.cr 0) (h.cm 1) (F_Ranges_between (P := P) (w := w) (base := base) h) (hr.mono (k := 5) (by decide)) (se_glob (by rfl) (h.gC 0 9)) (sa_cons se_int (sa_cons se_int sa_nil))) sa_nil))) (sa_cons se_bl sa_nil)))))))) (sb_one (ss_ret se_bl)) sb_nil)
  (sb_one (ss_ret (se_and (se_cmp (dop_eqD hr.u64) (se_fld (se_bin (dop_binC (c := 1) (h.sf 1) (h.fd 3) (h.ff 3) (F_Filter___and__ (P := P) (w := w) (base := base) h) (hr.mono (k := 28) (by decide))) (se_var (i := 9)) (se_cm0 fr.tk (h.cr 1) (h.cm 7) (F_Filter_never (P := P) (w := w) (base := base) h) (hr.mono (k := 28) (by decide)) (se_glob (by rfl) (h.gC 1 13)))) (h.na [1] "columns")) (se_tup (sa_cons se_str sa_nil)) (by rfl)) (se_one (se_cmp (dop_eqD hr.u64) (se_fld (se_un (dun_invC (c := 1) (h.fd 5) (h.ff 5) (F_Filter___invert__ (P := P) (w := w) (base := base) h) (hr.mono (k := 28) (by decide))) (se_cm0 fr.tk (h.cr 1) (h.cm 6) (F_Filter_always (P := P) (w := w) (base := base) h) (hr.mono (k := 28) (by decide)) (se_glob (by rfl) (h.gC 1 13)))) (h.na [1] "columns")) (se_tup sa_nil) (by rfl))))))))))))))))) (FD.bindsN fun _ _ _ _ _ _ us hl => match us, hl with | [_], _ => rfl)
abbrev s_law : Stmt := top 43
def m_law (CA : Ly) : MS :=
  (mRet (mAndV (mF (r__law_part_one CA) (aCons (mVar 0) aNil)) (mF (r__law_part_two CA) (aCons (mVar 0) aNil))))
def g_law (CA : Ly) : MF := body 1 (m_law CA)
def r_law (CA : Ly) : MF := ar 1 (g_law CA)
theorem sc_law : FnScope ["script"] ["script"] (defScope s_law) := C8.fnScope_by (by decide +kernel)
theorem F_law (h : DX.Ht dat K mg base CA) : DL.FnR P w K mg base (L2.CX P w) 56 (He.fAd K ("law", none)) (spR K CA (r_law CA)) := by
  obtain ⟨fd, FD⟩ := h.fn 46
  exact fn_all (sf_of FD sc_law fun cdv A outer s H E hr fr =>
  (sb_one (ss_ret (se_and (se_callG (df_fn fr.tk (F__law_part_one (P := P) (w := w) (base := base) h) (hr.mono (k := 55) (by decide)) (h.kp 26)) (by rfl) (h.g 26) (sa_cons (se_var (i := 0)) sa_nil)) (se_one (se_callG (df_fn fr.tk (F__law_part_two (P := P) (w := w) (base := base) h) (hr.mono (k := 30) (by decide)) (h.kp 38)) (by rfl) (h.g 38) (sa_cons (se_var (i := 0)) sa_nil))))))) (FD.bindsN fun _ _ _ _ _ _ us hl => match us, hl with | [_], _ => rfl)
end
end Q0
set_option Elab.async false
set_option linter.all false
set_option maxRecDepth 100000
set_option maxHeartbeats 4000000
/-! K1: what the defs compute, in plain words. -/
namespace DL
theorem body_rt {n : Nat} {m : MS} {ds bx b : List D} {r : R} (h : m (ds.map some ++ List.replicate (n - ds.length) none) bx = .rt r b) (hl : b.length = bx.length) : body n m ds bx = .ok r b := by
  unfold body; rw [h]; simp [leave, hl]
theorem body_nx {n : Nat} {m : MS} {ds bx b : List D} {ρ : Sl} (h : m (ds.map some ++ List.replicate (n - ds.length) none) bx = .nx ρ b) (hl : b.length = bx.length) : body n m ds bx = .ok (.val .non) b := by
  unfold body; rw [h]; simp [leave, hl]
theorem ar_ok {n : Nat} {mf : MF} {ds bx : List D} (h : ds.length = n) : ar n mf ds bx = mf ds bx := by unfold ar; rw [if_pos h]
theorem run_rt {n k : Nat} {m : MS} {ds bx b : List D} {r : R} (h : m (ds.map some ++ List.replicate (n - ds.length) none) bx = .rt r b) (hk : ds.length = k := by rfl) (hl : b.length = bx.length := by rfl) : ar k (body n m) ds bx = .ok r b := (ar_ok hk).trans (body_rt h hl)
/-! ### evaluation -/
section
variable {ρ ρ' : Sl} {bx b b' : List D} {r r' : R}
theorem ev_un {g : D → List D → Out R} {m : ME} (h : m ρ bx = .ok r b) : mUn g m ρ bx = g r.d b := by unfold mUn; rw [h]; rfl
theorem ev_bin {g : D → D → List D → Out R} {m m' : ME} (h : m ρ bx = .ok r b) (h' : m' ρ b = .ok r' b') : mBin g m m' ρ bx = g r.d r'.d b' := by
  unfold mBin; rw [h]; simp only [Out.bind_ok]; rw [h']; rfl
theorem ev_test {m : ME} {k : Bool} (h : m ρ bx = .ok (.val (.bl k)) b) : mTest m ρ bx = .ok k b := by unfold mTest; rw [h]; rfl
theorem ev_andT {m m' : MB} (h : m ρ bx = .ok true b) : mAnd m m' ρ bx = m' ρ b := by unfold mAnd; rw [h]; rfl
theorem ev_andF {m m' : MB} (h : m ρ bx = .ok false b) : mAnd m m' ρ bx = .ok false b := by unfold mAnd; rw [h]; rfl
theorem ev_orT {m m' : MB} (h : m ρ bx = .ok true b) : mOr m m' ρ bx = .ok true b := by unfold mOr; rw [h]; rfl
theorem ev_orF {m m' : MB} (h : m ρ bx = .ok false b) : mOr m m' ρ bx = m' ρ b := by unfold mOr; rw [h]; rfl
theorem ev_not {m : MB} {k : Bool} (h : m ρ bx = .ok k b) : mNot m ρ bx = .ok (!k) b := by unfold mNot; rw [h]; rfl
theorem ev_nil : aNil ρ bx = .ok [] bx := rfl
theorem ev_cons {m : ME} {a : MA} {ds : List D} (h : m ρ bx = .ok r b) (h' : a ρ b = .ok ds b') : aCons m a ρ bx = .ok (r.d :: ds) b' := by
  unfold aCons; rw [h]; simp only [Out.bind_ok]; rw [h']; rfl
theorem ev_F {mf : MF} {a : MA} {ds : List D} (h : a ρ bx = .ok ds b) : mF mf a ρ bx = mf ds b := by unfold mF; rw [h]; rfl
theorem ev_CB {g : List D → List D → Out R} {a : MA} {ds : List D} (h : a ρ bx = .ok ds b) : mCB g a ρ bx = g ds b := by unfold mCB; rw [h]; rfl
theorem ev_seq {m m' : MS} (h : m ρ bx = .nx ρ' b) : mSeq m m' ρ bx = m' ρ' b := by unfold mSeq; rw [h]
theorem ev_seqR {m m' : MS} (h : m ρ bx = .rt r b) : mSeq m m' ρ bx = .rt r b := by unfold mSeq; rw [h]
theorem ev_ifT {t : MB} {m m' : MS} (h : t ρ bx = .ok true b) : mIfS t m m' ρ bx = m ρ b := by unfold mIfS; rw [h]; rfl
theorem ev_ifF {t : MB} {m m' : MS} (h : t ρ bx = .ok false b) : mIfS t m m' ρ bx = m' ρ b := by unfold mIfS; rw [h]; rfl
theorem ev_asg {m : ME} {i : Nat} (h : m ρ bx = .ok r b) : mAsg m (gN i) ρ bx = .nx (ρ.set i (some r.d)) b := by unfold mAsg; rw [h]; rfl
theorem ev_expr {m : ME} (h : m ρ bx = .ok r b) : mExpr m ρ bx = .nx ρ b := by unfold mExpr; rw [h]; rfl
theorem ev_box {m : ME} {i : Nat} {d : D} (h : m ρ bx = .ok (.new d) b) : mBox m i ρ bx = .nx (ρ.set i (some (.box b.length))) (b ++ [d]) := by unfold mBox; rw [h]; rfl
theorem ev_setIx {m mo mi : ME} {o i : R} {b1 b2 b3 : List D} (h : m ρ bx = .ok r b) (ho : mo ρ b = .ok o b1) (hi : mi ρ b1 = .ok i b2) (hs : setD o.d i.d r.d b2 = some b3) : mSetIx m mo mi ρ bx = .nx ρ b3 := by
  unfold mSetIx; rw [h]; simp only [liftE]; rw [ho]; simp only [liftE]; rw [hi]; simp only [liftE]; rw [hs]
theorem ev_ret {m : ME} (h : m ρ bx = .ok r b) : mRet m ρ bx = .rt r b := by unfold mRet; rw [h]; rfl
end
end DL
namespace Q0
open PySem DL
abbrev oD : Option Int → D
  | none => .non
  | some i => .int i
def emp : Option Int → Option Int → Bool
  | some i, some j => decide (i > j)
  | _, _ => false
theorem c_is_empty (CA : Ly) (l h : Option Int) (bx : List D) : r_is_empty CA [oD l, oD h] bx = .ok (.val (.bl (emp l h))) bx := by
  cases l <;> cases h <;> exact run_rt rfl
def hiLow : Option Int → Option Int → Option Int
  | none, o => o
  | some i, none => some i
  | some i, some j => some (max i j)
def loHigh : Option Int → Option Int → Option Int
  | none, o => o
  | some i, none => some i
  | some i, some j => some (min i j)
def hiHigh : Option Int → Option Int → Option Int
  | some i, some j => some (max i j)
  | _, _ => none
theorem c_higher_low (CA : Ly) (l h : Option Int) (bx : List D) : r_higher_low CA [oD l, oD h] bx = .ok (.val (oD (hiLow l h))) bx := by
  cases l <;> cases h <;> exact run_rt rfl
theorem c_lower_high (CA : Ly) (l h : Option Int) (bx : List D) : r_lower_high CA [oD l, oD h] bx = .ok (.val (oD (loHigh l h))) bx := by
  cases l <;> cases h <;> exact run_rt rfl
theorem c_higher_high (CA : Ly) (l h : Option Int) (bx : List D) : r_higher_high CA [oD l, oD h] bx = .ok (.val (oD (hiHigh l h))) bx := by
  cases l <;> cases h <;> exact run_rt rfl
end Q0

set_option Elab.async false
set_option linter.all false
set_option maxRecDepth 100000
set_option maxHeartbeats 4000000
/-! K2: stretches as data; joined. -/
namespace Q0
open PySem DL
abbrev Stretch := Option Int × Option Int
abbrev sD (s : Stretch) : D := .tup [oD s.1, oD s.2]
def oP : Option Int → PyData
  | none => .none
  | some i => .int i
def sP (s : Stretch) : PyData := .tuple [oP s.1, oP s.2]
theorem toP_o (o : Option Int) : (oD o).toP = some (oP o) := by cases o <;> rfl
theorem toP_s (s : Stretch) : (sD s).toP = some (sP s) := by
  obtain ⟨a, b⟩ := s
  cases a <;> cases b <;> rfl
theorem toPs_s : ∀ st : List Stretch, D.toPs (st.map sD) = some (st.map sP)
  | [] => rfl
  | s :: st => by
    have h := toPs_s st
    show (match (sD s).toP, D.toPs (st.map sD) with | some p, some ps => some (p :: ps) | _, _ => none) = _
    rw [toP_s, h]
    rfl
theorem lay_s (s : Stretch) : (sP s).canLay0 = true := by
  obtain ⟨a, b⟩ := s
  cases a <;> cases b <;> rfl
theorem lays_s : ∀ st : List Stretch, PyData.canLayAll0 (st.map sP) = true
  | [] => rfl
  | s :: st => by
    show ((sP s).canLay0 && PyData.canLayAll0 (st.map sP)) = true
    rw [lay_s, lays_s st]; rfl
theorem deep_s (s : Stretch) : (sP s).depth = 1 := by
  obtain ⟨a, b⟩ := s
  cases a <;> cases b <;> simp [sP, oP, PyData.depth, PyData.depthAll]
theorem deeps_s : ∀ st : List Stretch, PyData.depthAll (st.map sP) ≤ 1
  | [] => by simp [PyData.depthAll]
  | s :: st => by
    have h := deeps_s st
    have h2 := deep_s s
    simp only [List.map_cons, PyData.depthAll]
    omega
theorem shaped_l (st : List Stretch) : SeqAt.shaped (.list (st.map sP)) = true := by
  have h := deeps_s st
  have h2 : (PyData.list (st.map sP)).depth ≤ 64 := by simp only [PyData.depth]; omega
  unfold SeqAt.shaped
  rw [show (PyData.list (st.map sP)).canLay0 = PyData.canLayAll0 (st.map sP) from rfl, lays_s, decide_eq_true h2]; rfl
theorem shaped_t (st : List Stretch) : SeqAt.shaped (.tuple (st.map sP)) = true := by
  have h := deeps_s st
  have h2 : (PyData.tuple (st.map sP)).depth ≤ 64 := by simp only [PyData.depth]; omega
  unfold SeqAt.shaped
  rw [show (PyData.tuple (st.map sP)).canLay0 = PyData.canLayAll0 (st.map sP) from rfl, lays_s, decide_eq_true h2]; rfl
theorem eqv_nil (st : List Stretch) : PyData.eqv (.list (st.map sP)) (.list []) = st.isEmpty := by
  cases st <;> rfl
/-- found != [], found a box -/
theorem ne_box {n : Nat} {st : List Stretch} {bx : List D} (h : bx[n]? = some (.lst (st.map sD))) : neD (.box n) (.lst []) bx = .ok (.val (.bl (!st.isEmpty))) bx := by
  have e : D.toPB bx (.box n) = some (.list (st.map sP)) := by
    show (match bx[n]? with | some (.lst ds) => (match D.toPs ds with | some ps => some (PyData.list ps) | none => none) | _ => none) = _
    rw [h]
    simp only [toPs_s]
  unfold neD
  rw [e]
  show (if SeqAt.shaped (.list (st.map sP)) = true ∧ SeqAt.shaped (.list []) = true then OK (.bl (!PyData.eqv (.list (st.map sP)) (.list []))) bx else .stk) = _
  rw [if_pos ⟨shaped_l st, rfl⟩, eqv_nil]
theorem at_last {α : Type} (xs : List α) (x : α) : L2.atI (xs ++ [x]) (-1) = some x := by
  unfold L2.atI L2.ixN
  simp only [List.length_append, List.length_singleton]
  have h1 : ¬ (0 : Int) ≤ -1 := by omega
  have h2 : -(((xs.length + 1 : Nat)) : Int) ≤ -1 := by omega
  rw [if_neg h1, if_pos h2]
  have h3 : (-1 + ((xs.length + 1 : Nat) : Int)).toNat = xs.length := by omega
  simp only [Option.bind_some]
  have h4 : (((xs.length + 1 : Nat) : Int) + -1).toNat = xs.length := by omega
  first | rw [h3] | rw [h4]
  simp
/-- found[-1] -/
theorem ix_last {n : Nat} {ds : List D} {d : D} {bx : List D} (h : bx[n]? = some (.lst (ds ++ [d]))) : ixD (.box n) (.int (-1)) bx = .ok (.val d) bx := by
  have e : D.sL bx (.box n) = some (ds ++ [d]) := by
    show (match bx[n]? with | some (.lst ds) => some ds | _ => none) = _
    rw [h]
  show (match D.sL bx (.box n) with | some ds => (match L2.atI ds (-1) with | some d => OK d bx | none => .stk) | none => _) = _
  rw [e]
  simp only [at_last]
end Q0

set_option Elab.async false
set_option linter.all false
set_option maxRecDepth 100000
set_option maxHeartbeats 4000000
/-! K3: joined. -/
namespace Q0
open PySem DL
/-- the body of the loop in joined, by its own name -/
def m_jc : MB := mAnd (mTest (mBin neD (mVar 1) (mLst aNil))) (mOr (mTest (mUn isN (mVar 2))) (mOr (mTest (mUn isN (mBin ixD (mBin ixD (mVar 1) (mUn negI (mC (.int 1)))) (mC (.int 1))))) (mTest (mBin leI (mVar 2) (mBin addI (mBin ixD (mBin ixD (mVar 1) (mUn negI (mC (.int 1)))) (mC (.int 1))) (mC (.int 1)))))))
def m_jt (CA : Ly) : MS := mSetIx (mTup (aCons (mBin ixD (mBin ixD (mVar 1) (mUn negI (mC (.int 1)))) (mC (.int 0))) (aCons (mF (r_higher_high CA) (aCons (mBin ixD (mBin ixD (mVar 1) (mUn negI (mC (.int 1)))) (mC (.int 1))) (aCons (mVar 3) aNil))) aNil))) (mVar 1) (mUn negI (mC (.int 1)))
def m_je : MS := mExpr (mBm appD (mVar 1) (aCons (mTup (aCons (mVar 2) (aCons (mVar 3) aNil))) aNil))
theorem m_joined_eq (CA : Ly) : m_joined CA = mSeq (mBox (mLst aNil) 1) (mSeq (mFor (iSeq (mSortLow (mVar 0))) (gTup [(gN 2), (gN 3)]) (mIfS m_jc (m_jt CA) m_je)) (mRet (mCB (un1 tupD) (aCons (mVar 1) aNil)))) := rfl
/-- whether a stretch goes on where the last one ends -/
def goes (last : Stretch) (s : Stretch) : Bool := match s.1, last.2 with
  | none, _ => true
  | _, none => true
  | some l, some b => decide (l ≤ b + 1)
variable {x : D} {n : Nat} {bx : List D}
abbrev sl (x : D) (n : Nat) (s : Stretch) : Sl := [some x, some (.box n), some (oD s.1), some (oD s.2)]
theorem jc_nil {s : Stretch} (h : bx[n]? = some (.lst [])) : m_jc (sl x n s) bx = .ok false bx := by
  have e := ne_box (st := []) h
  show (Out.bind (mTest (mBin neD (mVar 1) (mLst aNil)) (sl x n s) bx) _) = _
  have e2 : mTest (mBin neD (mVar 1) (mLst aNil)) (sl x n s) bx = .ok false bx := by
    show Out.bind (neD (.box n) (.lst []) bx) _ = _
    rw [e]
    rfl
  rw [e2]
  rfl
theorem jc_snoc {s t : Stretch} {st : List Stretch} (h : bx[n]? = some (.lst (st.map sD ++ [sD t]))) : m_jc (sl x n s) bx = .ok (goes t s) bx := by
  have hm : bx[n]? = some (.lst ((st ++ [t]).map sD)) := by rw [List.map_append]; exact h
  have e := ne_box hm
  have e3 : (!(st ++ [t]).isEmpty) = true := by cases st <;> rfl
  rw [e3] at e
  have e2 : mTest (mBin neD (mVar 1) (mLst aNil)) (sl x n s) bx = .ok true bx := by
    show Out.bind (neD (.box n) (.lst []) bx) _ = _
    rw [e]
    rfl
  have e4 : mBin ixD (mVar 1) (mUn negI (mC (.int 1))) (sl x n s) bx = .ok (.val (sD t)) bx := by
    show ixD (.box n) (.int (-1)) bx = _
    exact ix_last h
  have e5 : mBin ixD (mBin ixD (mVar 1) (mUn negI (mC (.int 1)))) (mC (.int 1)) (sl x n s) bx = .ok (.val (oD t.2)) bx := by
    show Out.bind (mBin ixD (mVar 1) (mUn negI (mC (.int 1))) (sl x n s) bx) _ = _
    rw [e4]
    rfl
  show Out.bind (mTest (mBin neD (mVar 1) (mLst aNil)) (sl x n s) bx) _ = _
  rw [e2]
  obtain ⟨l, hh⟩ := s
  obtain ⟨a, b⟩ := t
  cases l with
  | none => rfl
  | some l =>
    show (mOr (mTest (mUn isN (mVar 2))) (mOr (mTest (mUn isN (mBin ixD (mBin ixD (mVar 1) (mUn negI (mC (.int 1)))) (mC (.int 1))))) (mTest (mBin leI (mVar 2) (mBin addI (mBin ixD (mBin ixD (mVar 1) (mUn negI (mC (.int 1)))) (mC (.int 1))) (mC (.int 1))))))) (sl x n (some l, hh)) bx = _
    rw [ev_orF (b := bx) rfl]
    cases b with
    | none => rw [ev_orT (b := bx) (ev_test (ev_un e5))]; rfl
    | some b =>
      rw [ev_orF (b := bx) (ev_test (ev_un e5))]
      have e8 : mBin addI (mBin ixD (mBin ixD (mVar 1) (mUn negI (mC (.int 1)))) (mC (.int 1))) (mC (.int 1)) (sl x n (some l, hh)) bx = .ok (.val (.int (b + 1))) bx := (ev_bin e5 (r' := .val (.int 1)) (b' := bx) rfl).trans rfl
      exact ev_test ((ev_bin (r := .val (.int l)) (b := bx) rfl e8).trans rfl)
/-- found.append((low, high)) -/
theorem je_ok {s : Stretch} {st : List Stretch} (h : bx[n]? = some (.lst (st.map sD))) (hl : st.length < sizeLine) : m_je (sl x n s) bx = .nx (sl x n s) (bx.set n (.lst ((st ++ [s]).map sD))) := by
  have e : mBm appD (mVar 1) (aCons (mTup (aCons (mVar 2) (aCons (mVar 3) aNil))) aNil) (sl x n s) bx = .ok (.val .non) (bx.set n (.lst ((st ++ [s]).map sD))) := by
    show (match D.sL bx (.box n) with | some _ => _ | none => _) = _
    have e1 : D.sL bx (.box n) = some (st.map sD) := by
      show (match bx[n]? with | some (.lst ds) => some ds | _ => none) = _
      rw [h]
    rw [e1]
    show appD (.box n) [sD s] bx = _
    show (match bx[n]? with | some (.lst xs) => if xs.length < sizeLine then OK .non (bx.set n (.lst (xs ++ [sD s]))) else .stk | _ => .stk) = _
    rw [h]
    simp only [List.length_map]
    rw [if_pos hl, List.map_append]
    rfl
  exact ev_expr e
theorem ixN_last (n : Nat) : L2.ixN (n + 1) (-1) = some n := by
  unfold L2.ixN
  have h1 : ¬ (0 : Int) ≤ -1 := by omega
  have h2 : -(((n + 1 : Nat)) : Int) ≤ -1 := by omega
  rw [if_neg h1, if_pos h2]
  congr 1
  omega
/-- found[-1] = (found[-1][0], higher_high(found[-1][1], high)) -/
theorem jt_ok (CA : Ly) {s t : Stretch} {st : List Stretch} (h : bx[n]? = some (.lst (st.map sD ++ [sD t]))) : m_jt CA (sl x n s) bx = .nx (sl x n s) (bx.set n (.lst ((st ++ [(t.1, hiHigh t.2 s.2)]).map sD))) := by
  have e4 : mBin ixD (mVar 1) (mUn negI (mC (.int 1))) (sl x n s) bx = .ok (.val (sD t)) bx := ix_last h
  have e5 : mBin ixD (mBin ixD (mVar 1) (mUn negI (mC (.int 1)))) (mC (.int 1)) (sl x n s) bx = .ok (.val (oD t.2)) bx := (ev_bin e4 (r' := .val (.int 1)) (b' := bx) rfl).trans rfl
  have e6 : mBin ixD (mBin ixD (mVar 1) (mUn negI (mC (.int 1)))) (mC (.int 0)) (sl x n s) bx = .ok (.val (oD t.1)) bx := (ev_bin e4 (r' := .val (.int 0)) (b' := bx) rfl).trans rfl
  have e7 : mF (r_higher_high CA) (aCons (mBin ixD (mBin ixD (mVar 1) (mUn negI (mC (.int 1)))) (mC (.int 1))) (aCons (mVar 3) aNil)) (sl x n s) bx = .ok (.val (oD (hiHigh t.2 s.2))) bx :=
    (ev_F (ev_cons e5 (ev_cons (r := .val (oD s.2)) (b := bx) rfl ev_nil))).trans (c_higher_high CA t.2 s.2 bx)
  have e8 : mTup (aCons (mBin ixD (mBin ixD (mVar 1) (mUn negI (mC (.int 1)))) (mC (.int 0))) (aCons (mF (r_higher_high CA) (aCons (mBin ixD (mBin ixD (mVar 1) (mUn negI (mC (.int 1)))) (mC (.int 1))) (aCons (mVar 3) aNil))) aNil)) (sl x n s) bx = .ok (.val (sD (t.1, hiHigh t.2 s.2))) bx := by
    unfold mTup
    rw [ev_cons e6 (ev_cons e7 ev_nil)]
    rfl
  refine ev_setIx (b1 := bx) (b2 := bx) (o := .val (.box n)) (i := .val (.int (-1))) e8 rfl rfl ?_
  show (match bx[n]? with | some (.lst ds) => (match L2.ixN ds.length (-1) with | some j => some (bx.set n (.lst (ds.set j (sD (t.1, hiHigh t.2 s.2))))) | none => none) | _ => none) = _
  rw [h]
  simp only [List.length_append, List.length_singleton, List.length_map, ixN_last]
  have e9 : (st.map sD ++ [sD t]).set st.length (sD (t.1, hiHigh t.2 s.2)) = (st ++ [(t.1, hiHigh t.2 s.2)]).map sD := by
    rw [List.map_append, List.set_append_right _ _ (by simp)]
    simp
  rw [e9]
/-- one step of joined -/
def jstep (acc : List Stretch) (s : Stretch) : List Stretch := match acc.getLast? with
  | none => acc ++ [s]
  | some t => if goes t s = true then acc.dropLast ++ [(t.1, hiHigh t.2 s.2)] else acc ++ [s]
theorem jstep_len (acc : List Stretch) (s : Stretch) : (jstep acc s).length ≤ acc.length + 1 := by
  unfold jstep
  cases acc.getLast? with
  | none => simp
  | some t =>
    dsimp only
    split
    · simp
    · simp
theorem jbody (CA : Ly) {s : Stretch} {st : List Stretch} (h : bx[n]? = some (.lst (st.map sD))) (hl : st.length < sizeLine) : mIfS m_jc (m_jt CA) m_je (sl x n s) bx = .nx (sl x n s) (bx.set n (.lst ((jstep st s).map sD))) := by
  rcases List.eq_nil_or_concat st with rfl | ⟨init, t, rfl⟩
  · rw [ev_ifF (jc_nil h)]
    exact je_ok (st := []) h hl
  · have h2 : bx[n]? = some (.lst (init.map sD ++ [sD t])) := by rw [h]; simp
    have e : jstep (init.concat t) s = if goes t s = true then init ++ [(t.1, hiHigh t.2 s.2)] else init.concat t ++ [s] := by
      unfold jstep; simp
    have hc := jc_snoc (x := x) (s := s) h2
    rw [e]
    cases g : goes t s with
    | true =>
      rw [g] at hc
      rw [ev_ifT hc, jt_ok CA h2]
      simp
    | false =>
      rw [g] at hc
      rw [ev_ifF hc, je_ok h hl]
      simp
end Q0

set_option Elab.async false
set_option linter.all false
set_option maxRecDepth 100000
set_option maxHeartbeats 4000000
/-! K4: joined, whole. -/
namespace Q0
open PySem DL
theorem set_set {α : Type} (l : List α) (n : Nat) (a b : α) : (l.set n a).set n b = l.set n b := by simp
theorem jloop (CA : Ly) {x : D} {n : Nat} : ∀ (zs acc : List Stretch) (p q : Option D) (bx : List D), bx[n]? = some (.lst (acc.map sD)) → acc.length + zs.length ≤ sizeLine →
    ∃ p' q', loop (gTup [gN 2, gN 3]) (mIfS m_jc (m_jt CA) m_je) (zs.map sD) [some x, some (.box n), p, q] bx = .nx [some x, some (.box n), p', q'] (bx.set n (.lst ((zs.foldl jstep acc).map sD)))
  | [], acc, p, q, bx, h, _ => by
    refine ⟨p, q, ?_⟩
    show OutS.nx _ bx = _
    have e : bx.set n (.lst (acc.map sD)) = bx := by
      obtain ⟨hl, he⟩ := List.getElem?_eq_some_iff.mp h
      rw [← he]; exact List.set_getElem_self hl
    rw [List.foldl_nil, e]
  | s :: zs, acc, p, q, bx, h, hl => by
    have hn : n < bx.length := (List.getElem?_eq_some_iff.mp h).1
    have hb := jbody (x := x) CA (s := s) h (by simp at hl; omega)
    have h2 : (bx.set n (.lst ((jstep acc s).map sD)))[n]? = some (.lst ((jstep acc s).map sD)) := List.getElem?_set_self hn
    have hl2 : (jstep acc s).length + zs.length ≤ sizeLine := by
      have := jstep_len acc s
      simp at hl; omega
    obtain ⟨p', q', e⟩ := jloop CA zs (jstep acc s) (some (oD s.1)) (some (oD s.2)) _ h2 hl2
    refine ⟨p', q', ?_⟩
    rw [set_set] at e
    rw [List.foldl_cons, ← e]
    show (match gTup [gN 2, gN 3] (sD s) [some x, some (.box n), p, q] with
      | none => OutS.stk
      | some ρ1 => (match mIfS m_jc (m_jt CA) m_je ρ1 bx with
        | .nx ρ' b' => loop (gTup [gN 2, gN 3]) (mIfS m_jc (m_jt CA) m_je) (zs.map sD) ρ' b'
        | .ct ρ' b' => loop (gTup [gN 2, gN 3]) (mIfS m_jc (m_jt CA) m_je) (zs.map sD) ρ' b'
        | .bk ρ' b' => .nx ρ' b'
        | o => o)) = _
    have eg : gTup [gN 2, gN 3] (sD s) [some x, some (.box n), p, q] = some (sl x n s) := rfl
    rw [eg]
    simp only
    rw [hb]
/-- sorted by low ends -/
def sorted (st : List Stretch) : List Stretch := st.mergeSort fun p q => lowLe p.1 q.1
def joinL (st : List Stretch) : List Stretch := (sorted st).foldl jstep []
theorem low_s (s : Stretch) : lowD (sD s) = some s.1 := by
  obtain ⟨a, b⟩ := s
  cases a <;> rfl
theorem sort_s (st : List Stretch) : sortLow (st.map sD) = (sorted st).map sD := by
  unfold sortLow sorted
  rw [List.map_mergeSort (r := fun p q : Stretch => lowLe p.1 q.1) (s := fun p q => lowLe (dLow p) (dLow q)) (f := sD)]
  intro a _ b _
  unfold dLow
  rw [low_s, low_s]; rfl
theorem cls_s (b : Nat) : ∀ st : List Stretch, D.cls b (st.map sD) = true
  | [] => rfl
  | s :: st => by
    show ((sD s).cl b && D.cls b (st.map sD)) = true
    rw [cls_s b st]
    obtain ⟨l, h⟩ := s
    cases l <;> cases h <;> rfl
end Q0

set_option Elab.async false
set_option linter.all false
set_option maxRecDepth 100000
set_option maxHeartbeats 4000000
namespace DL
/-- a def that boxes something of its own: the boxes of the caller stay -/
theorem run_rtC {n k : Nat} {m : MS} {ds bx ex : List D} {d : D} (h : m (ds.map some ++ List.replicate (n - ds.length) none) bx = .rt (.val d) (bx ++ ex)) (hb : bx.all (D.cl bx.length) = true) (hd : d.cl bx.length = true) (hn : ∀ j, d ≠ .box j) (hk : ds.length = k := by rfl) : ar k (body n m) ds bx = .ok (.val d) bx := by
  rw [ar_ok hk]
  unfold body
  rw [h]
  show leave bx.length (.val d) (bx ++ ex) = _
  unfold leave
  by_cases e : (bx ++ ex).length = bx.length
  · rw [if_pos e]
    have : ex = [] := by rw [List.length_append] at e; exact List.length_eq_zero_iff.mp (by omega)
    rw [this, List.append_nil]
  · rw [if_neg e, List.take_left', if_pos hb]
    · cases d with
      | box j => exact absurd rfl (hn j)
      | _ => simp only [hd, if_true]
    · rfl
end DL
namespace Q0
open PySem DL
theorem c_joinedS (CA : Ly) {x : D} {st : List Stretch} {bx : List D} (hs : x.seq (bx ++ [D.lst []]) = some (st.map sD)) (hl : st.length ≤ sizeLine) (hb : bx.all (D.cl bx.length) = true) : r_joined CA [x] bx = .ok (.val (.tup ((joinL st).map sD))) bx := by
  have h1 : (bx ++ [D.lst []])[bx.length]? = some (.lst (([] : List Stretch).map sD)) := by simp
  have sl : (sorted st).length = st.length := by unfold sorted; simp
  obtain ⟨p, q, e⟩ := jloop CA (x := x) (n := bx.length) (sorted st) [] none none (bx ++ [.lst []]) h1 (by rw [sl]; simpa using hl)
  have es : (bx ++ [D.lst []]).set bx.length (.lst ((joinL st).map sD)) = bx ++ [.lst ((joinL st).map sD)] := by simp
  have e' : loop (gTup [gN 2, gN 3]) (mIfS m_jc (m_jt CA) m_je) ((sorted st).map sD) [some x, some (.box bx.length), none, none] (bx ++ [.lst []]) = .nx [some x, some (.box bx.length), p, q] (bx ++ [.lst ((joinL st).map sD)]) := by rw [e]; congr 1
  refine run_rtC (ex := [.lst ((joinL st).map sD)]) ?_ hb (cls_s _ _) (fun j z => by cases z)
  rw [m_joined_eq]
  have a1 : mBox (mLst aNil) 1 [some x, none, none, none] bx = .nx [some x, some (.box bx.length), none, none] (bx ++ [.lst []]) := ev_box (m := mLst aNil) (i := 1) (d := .lst []) (b := bx) rfl
  rw [show ([x].map some ++ List.replicate (4 - [x].length) none : Sl) = [some x, none, none, none] from rfl, ev_seq a1]
  have a2 : iSeq (mSortLow (mVar 0)) [some x, some (.box bx.length), none, none] (bx ++ [.lst []]) = .ok ((sorted st).map sD) (bx ++ [.lst []]) := by
    have hall : ((st.map sD).all fun d => (lowD d).isSome) = true := by
      rw [List.all_map, List.all_eq_true]
      intro s _
      show (lowD (sD s)).isSome = true
      rw [low_s]; rfl
    have a3 : mSortLow (mVar 0) [some x, some (.box bx.length), none, none] (bx ++ [.lst []]) = .ok (.new (.lst ((sorted st).map sD))) (bx ++ [.lst []]) := by
      show (match x.seq (bx ++ [D.lst []]) with | some ds => if (ds.all fun d => (lowD d).isSome) = true then Out.ok (R.new (D.lst (sortLow ds))) (bx ++ [D.lst []]) else Out.stk | none => Out.stk) = _
      rw [hs]
      simp only
      rw [if_pos hall, sort_s]
    unfold iSeq
    rw [a3]
    rfl
  have a4 : mFor (iSeq (mSortLow (mVar 0))) (gTup [(gN 2), (gN 3)]) (mIfS m_jc (m_jt CA) m_je) [some x, some (.box bx.length), none, none] (bx ++ [.lst []]) = .nx [some x, some (.box bx.length), p, q] (bx ++ [.lst ((joinL st).map sD)]) := by
    unfold mFor
    rw [a2]
    exact e'
  rw [ev_seq a4]
  refine ev_ret ?_
  have hq : (bx ++ [D.lst ((joinL st).map sD)])[bx.length]? = some (.lst ((joinL st).map sD)) := by simp
  rw [ev_CB (ev_cons (r := .val (.box bx.length)) (b := bx ++ [D.lst ((joinL st).map sD)]) rfl ev_nil)]
  show (match (match (bx ++ [D.lst ((joinL st).map sD)])[bx.length]? with | some (.lst ds) => some ds | _ => none) with | some ds => OK (.tup ds) (bx ++ [D.lst ((joinL st).map sD)]) | none => .stk) = _
  rw [hq]
theorem c_joined (CA : Ly) {x : D} {st : List Stretch} {bx : List D} (hx : x = .lst (st.map sD) ∨ x = .tup (st.map sD)) (hl : st.length ≤ sizeLine) (hb : bx.all (D.cl bx.length) = true) : r_joined CA [x] bx = .ok (.val (.tup ((joinL st).map sD))) bx :=
  c_joinedS CA (by rcases hx with rfl | rfl <;> rfl) hl hb
theorem c_joinedB (CA : Ly) {st : List Stretch} {bx : List D} (hl : st.length ≤ sizeLine) (hb : (bx ++ [D.lst (st.map sD)]).all (D.cl (bx ++ [D.lst (st.map sD)]).length) = true) : r_joined CA [.box bx.length] (bx ++ [.lst (st.map sD)]) = .ok (.val (.tup ((joinL st).map sD))) (bx ++ [.lst (st.map sD)]) := by
  refine c_joinedS CA ?_ hl hb
  show D.sL _ (.box bx.length) = _
  show (match (bx ++ [D.lst (st.map sD)] ++ [D.lst []])[bx.length]? with | some (.lst ds) => some ds | _ => none) = _
  simp
end Q0

set_option Elab.async false
set_option linter.all false
set_option maxRecDepth 100000
set_option maxHeartbeats 4000000
/-! KM: what joinL means. -/
namespace Q0
/-- a number in a stretch, in some stretches -/
def inS (s : Stretch) (n : Int) : Prop := (∀ l, s.1 = some l → l ≤ n) ∧ ∀ h, s.2 = some h → n ≤ h
def mem (st : List Stretch) (n : Int) : Prop := ∃ s ∈ st, inS s n
/-- a stretch with numbers -/
def okS (s : Stretch) : Prop := ∀ l h, s.1 = some l → s.2 = some h → l ≤ h
/-- one ends, and the other begins beyond a number that is in neither -/
def gap (p q : Stretch) : Prop := ∃ b c, p.2 = some b ∧ q.1 = some c ∧ b + 1 < c
structure Canon (st : List Stretch) : Prop where
  ok : ∀ s ∈ st, okS s
  gaps : st.Pairwise gap
theorem mem_append (a b : List Stretch) (n : Int) : mem (a ++ b) n ↔ mem a n ∨ mem b n := by
  constructor
  · rintro ⟨s, hs, h⟩
    rcases List.mem_append.mp hs with z | z
    · exact .inl ⟨s, z, h⟩
    · exact .inr ⟨s, z, h⟩
  · rintro (⟨s, hs, h⟩ | ⟨s, hs, h⟩)
    · exact ⟨s, List.mem_append_left _ hs, h⟩
    · exact ⟨s, List.mem_append_right _ hs, h⟩
theorem mem_one (s : Stretch) (n : Int) : mem [s] n ↔ inS s n := by
  constructor
  · rintro ⟨t, ht, h⟩
    rw [List.mem_singleton.mp ht] at h; exact h
  · exact fun h => ⟨s, List.mem_singleton.mpr rfl, h⟩
/-- two stretches that meet or touch, the lower one first -/
theorem in_both (t s : Stretch) (n : Int) (ht : okS t) (hs : okS s) (hle : DL.lowLe t.1 s.1 = true) (hg : goes t s = true) : inS (t.1, hiHigh t.2 s.2) n ↔ inS t n ∨ inS s n := by
  obtain ⟨a, b⟩ := t
  obtain ⟨l, h⟩ := s
  cases a <;> cases b <;> cases l <;> cases h <;> simp_all [inS, okS, goes, hiHigh, DL.lowLe] <;> omega
theorem ok_both (t s : Stretch) (ht : okS t) (hs : okS s) (hle : DL.lowLe t.1 s.1 = true) : okS (t.1, hiHigh t.2 s.2) := by
  obtain ⟨a, b⟩ := t
  obtain ⟨l, h⟩ := s
  cases a <;> cases b <;> cases l <;> cases h <;> simp_all [okS, hiHigh, DL.lowLe] <;> omega
theorem gap_new (t s : Stretch) (hg : goes t s = false) : gap t s := by
  obtain ⟨a, b⟩ := t
  obtain ⟨l, h⟩ := s
  cases b <;> cases l <;> simp_all [goes, gap]
theorem gap_on (p t s : Stretch) (h : gap p t) (hle : DL.lowLe t.1 s.1 = true) : gap p s := by
  obtain ⟨b, c, h1, h2, h3⟩ := h
  cases e : s.1 with
  | none => rw [h2, e] at hle; simp [DL.lowLe] at hle
  | some l =>
    rw [h2, e] at hle
    simp [DL.lowLe] at hle
    exact ⟨b, l, h1, e, by omega⟩
theorem low_trans (a b c : Option Int) (h : DL.lowLe a b = true) (h' : DL.lowLe b c = true) : DL.lowLe a c = true := by
  cases a <;> cases b <;> cases c <;> simp_all [DL.lowLe]
  omega
theorem jfold : ∀ (zs acc : List Stretch), Canon acc → (∀ s ∈ zs, okS s) → zs.Pairwise (fun p q => DL.lowLe p.1 q.1 = true) → (∀ t, acc.getLast? = some t → ∀ s ∈ zs, DL.lowLe t.1 s.1 = true) →
    Canon (zs.foldl jstep acc) ∧ ∀ n, mem (zs.foldl jstep acc) n ↔ mem acc n ∨ mem zs n
  | [], acc, hc, _, _, _ => ⟨hc, fun n => by
    rw [List.foldl_nil]
    exact ⟨.inl, fun h => h.elim id fun ⟨s, hs, _⟩ => by simp at hs⟩⟩
  | s :: zs, acc, hc, hv, hp, hl => by
    have hs := hv s (List.mem_cons_self ..)
    obtain ⟨hp1, hp2⟩ := List.pairwise_cons.mp hp
    have key : Canon (jstep acc s) ∧ (∀ n, mem (jstep acc s) n ↔ mem acc n ∨ inS s n) ∧ ∀ t, (jstep acc s).getLast? = some t → ∀ z ∈ zs, DL.lowLe t.1 z.1 = true := by
      rcases List.eq_nil_or_concat acc with rfl | ⟨init, t, rfl⟩
      · refine ⟨⟨fun z hz => ?_, by simp [jstep]⟩, fun n => ?_, fun t ht z hz => ?_⟩
        · have : z = s := by simpa [jstep] using hz
          exact this ▸ hs
        · show mem [s] n ↔ _
          rw [mem_one]
          exact ⟨.inr, fun h => h.elim (fun ⟨x, hx, _⟩ => by simp at hx) id⟩
        · have : s = t := by simpa [jstep] using ht
          exact this ▸ hp1 z hz
      · have e : jstep (init.concat t) s = if goes t s = true then init ++ [(t.1, hiHigh t.2 s.2)] else init ++ [t] ++ [s] := by
          unfold jstep; simp
        have hle : DL.lowLe t.1 s.1 = true := hl t (by simp) s (List.mem_cons_self ..)
        have ht : okS t := hc.ok t (by simp)
        have hin : ∀ z ∈ init, okS z := fun z hz => hc.ok z (by simp [hz])
        have hg := hc.gaps
        rw [List.concat_eq_append, List.pairwise_append] at hg
        obtain ⟨g1, _, g2⟩ := hg
        have g2' : ∀ p ∈ init, gap p t := fun p hp => g2 p hp t (List.mem_singleton.mpr rfl)
        rw [e, List.concat_eq_append]
        cases g : goes t s with
        | true =>
          rw [if_pos rfl]
          refine ⟨⟨fun z hz => ?_, ?_⟩, fun n => ?_, fun t' ht' z hz => ?_⟩
          · rcases List.mem_append.mp hz with h | h
            · exact hin z h
            · rw [List.mem_singleton.mp h]; exact ok_both t s ht hs hle
          · rw [List.pairwise_append]
            refine ⟨g1, List.pairwise_singleton _ _, fun p hp q hq => ?_⟩
            rw [List.mem_singleton.mp hq]
            obtain ⟨b, c, h1, h2, h3⟩ := g2' p hp
            exact ⟨b, c, h1, h2, h3⟩
          · rw [mem_append, mem_append, mem_one, mem_one, in_both t s n ht hs hle g]
            exact or_assoc.symm
          · have : (t.1, hiHigh t.2 s.2) = t' := by simpa using ht'
            rw [← this]
            exact low_trans _ _ _ hle (hp1 z hz)
        | false =>
          rw [if_neg (by simp)]
          refine ⟨⟨fun z hz => ?_, ?_⟩, fun n => ?_, fun t' ht' z hz => ?_⟩
          · rcases List.mem_append.mp hz with h | h
            · exact hc.ok z (by rw [List.concat_eq_append]; exact h)
            · rw [List.mem_singleton.mp h]; exact hs
          · rw [List.pairwise_append]
            have hg0 := hc.gaps
            rw [List.concat_eq_append] at hg0
            refine ⟨hg0, List.pairwise_singleton _ _, fun p hp q hq => ?_⟩
            rw [List.mem_singleton.mp hq]
            rcases List.mem_append.mp hp with h | h
            · exact gap_on p t s (g2' p h) hle
            · rw [List.mem_singleton.mp h]; exact gap_new t s g
          · rw [mem_append, mem_one]
          · have : s = t' := by simpa using ht'
            rw [← this]
            exact hp1 z hz
    obtain ⟨k1, k2, k3⟩ := key
    obtain ⟨r1, r2⟩ := jfold zs (jstep acc s) k1 (fun z hz => hv z (List.mem_cons_of_mem _ hz)) hp2 k3
    refine ⟨r1, fun n => ?_⟩
    rw [List.foldl_cons, r2 n, k2 n]
    have : mem (s :: zs) n ↔ inS s n ∨ mem zs n := by
      rw [show s :: zs = [s] ++ zs from rfl, mem_append, mem_one]
    rw [this]
    exact or_assoc
theorem low_total (a b : Option Int) : (DL.lowLe a b || DL.lowLe b a) = true := by
  cases a <;> cases b <;> simp [DL.lowLe]
  omega
theorem join_ok {st : List Stretch} (h : ∀ s ∈ st, okS s) : Canon (joinL st) ∧ ∀ n, mem (joinL st) n ↔ mem st n := by
  have pm : (sorted st).Perm st := List.mergeSort_perm _ _
  have hp : (sorted st).Pairwise (fun p q => DL.lowLe p.1 q.1 = true) := List.pairwise_mergeSort (le := fun p q : Stretch => DL.lowLe p.1 q.1) (fun a b c => low_trans _ _ _) (fun a b => low_total _ _) st
  obtain ⟨h1, h2⟩ := jfold (sorted st) [] ⟨fun s hs => by simp at hs, List.Pairwise.nil⟩ (fun s hs => h s (pm.mem_iff.mp hs)) hp (fun t ht => by simp at ht)
  refine ⟨h1, fun n => (h2 n).trans ⟨fun z => z.elim (fun ⟨s, hs, _⟩ => by simp at hs) fun ⟨s, hs, q⟩ => ⟨s, pm.mem_iff.mp hs, q⟩, fun ⟨s, hs, q⟩ => .inr ⟨s, pm.mem_iff.mpr hs, q⟩⟩⟩
end Q0

set_option Elab.async false
set_option linter.all false
set_option maxRecDepth 100000
set_option maxHeartbeats 4000000
/-! KN: canonical lists with the same integers are the same. -/
namespace Q0
theorem Canon.tail {s : Stretch} {st : List Stretch} (h : Canon (s :: st)) : Canon st := ⟨fun z hz => h.ok z (List.mem_cons_of_mem _ hz), (List.pairwise_cons.mp h.gaps).2⟩
/-- no number below a stretch's low end is in it or behind it -/
theorem low_first {s : Stretch} {st : List Stretch} (h : Canon (s :: st)) {l n : Int} (e : s.1 = some l) (hn : mem (s :: st) n) : l ≤ n := by
  obtain ⟨z, hz, hi⟩ := hn
  rcases List.mem_cons.mp hz with rfl | hz
  · exact hi.1 l e
  · obtain ⟨b, c, h1, h2, h3⟩ := (List.pairwise_cons.mp h.gaps).1 z hz
    have := hi.1 c h2
    have h4 := h.ok s (List.mem_cons_self ..) l b e h1
    omega
theorem mem_nil (n : Int) : ¬ mem [] n := fun ⟨s, hs, _⟩ => by simp at hs
/-- a number of a stretch -/
def aNum : Stretch → Int
  | (some l, _) => l
  | (none, some h) => h
  | (none, none) => 0
theorem aNum_in (s : Stretch) (h : okS s) : inS s (aNum s) := by
  obtain ⟨a, b⟩ := s
  cases a <;> cases b <;> simp_all [inS, aNum, okS]
end Q0
namespace Q0
/-- the number behind the first stretch is in none -/
theorem behind {s : Stretch} {st : List Stretch} (h : Canon (s :: st)) {b : Int} (e : s.2 = some b) : ¬ mem (s :: st) (b + 1) := by
  rintro ⟨z, hz, hi⟩
  rcases List.mem_cons.mp hz with rfl | hz
  · have := hi.2 b e; omega
  · obtain ⟨b', c, h1, h2, h3⟩ := (List.pairwise_cons.mp h.gaps).1 z hz
    rw [e] at h1; cases h1
    have := hi.1 c h2
    omega
/-- what is in a later stretch is not in the first one -/
theorem later {s : Stretch} {st : List Stretch} (h : Canon (s :: st)) {n : Int} (hn : mem st n) : ¬ inS s n := by
  obtain ⟨z, hz, hi⟩ := hn
  obtain ⟨b, c, h1, h2, h3⟩ := (List.pairwise_cons.mp h.gaps).1 z hz
  intro q
  have a1 := q.2 b h1
  have a2 := hi.1 c h2
  omega
theorem mem_cons (s : Stretch) (st : List Stretch) (n : Int) : mem (s :: st) n ↔ inS s n ∨ mem st n := by
  rw [show s :: st = [s] ++ st from rfl, mem_append, mem_one]
theorem low_same {s t : Stretch} {a b : List Stretch} (ha : Canon (s :: a)) (hb : Canon (t :: b)) (h : ∀ n, mem (s :: a) n → mem (t :: b) n) : DL.lowLe t.1 s.1 = true := by
  cases e : t.1 with
  | none => rfl
  | some l =>
    cases e2 : s.1 with
    | some l' =>
      have q : inS s l' := ⟨fun x hx => (by rw [e2] at hx; cases hx; omega), fun y hy => ha.ok s (List.mem_cons_self ..) l' y e2 hy⟩
      have := low_first hb e (h l' ((mem_cons _ _ _).mpr (.inl q)))
      simpa [DL.lowLe] using this
    | none =>
      exfalso
      have q : ∃ n, n < l ∧ inS s n := by
        cases e3 : s.2 with
        | none => exact ⟨l - 1, by omega, ⟨fun x hx => (by rw [e2] at hx; cases hx), fun y hy => by rw [e3] at hy; cases hy⟩⟩
        | some y => exact ⟨min (l - 1) y, by omega, ⟨fun x hx => (by rw [e2] at hx; cases hx), fun y' hy => by rw [e3] at hy; cases hy; omega⟩⟩
      obtain ⟨n, h1, h2⟩ := q
      have := low_first hb e (h n ((mem_cons _ _ _).mpr (.inl h2)))
      omega
theorem high_same {s t : Stretch} {a b : List Stretch} (ha : Canon (s :: a)) (hb : Canon (t :: b)) (h : ∀ n, mem (s :: a) n ↔ mem (t :: b) n) (el : s.1 = t.1) : ∀ y, s.2 = some y → ∃ z, t.2 = some z ∧ z ≤ y := by
  intro y hy
  have n1 := behind ha hy
  rw [h] at n1
  cases e : t.2 with
  | none =>
    exfalso
    refine n1 ((mem_cons _ _ _).mpr (.inl ⟨fun x hx => ?_, fun z hz => by rw [e] at hz; cases hz⟩))
    have := ha.ok s (List.mem_cons_self ..) x y (el ▸ hx) hy
    omega
  | some z =>
    refine ⟨z, rfl, ?_⟩
    apply Int.not_lt.mp
    intro hz
    refine n1 ((mem_cons _ _ _).mpr (.inl ⟨fun x hx => ?_, fun z' hz' => by rw [e] at hz'; cases hz'; omega⟩))
    have := ha.ok s (List.mem_cons_self ..) x y (el ▸ hx) hy
    omega
theorem canon_unique : ∀ (a b : List Stretch), Canon a → Canon b → (∀ n, mem a n ↔ mem b n) → a = b
  | [], [], _, _, _ => rfl
  | [], t :: b, _, hb, h => absurd ((h (aNum t)).mpr ((mem_cons _ _ _).mpr (.inl (aNum_in t (hb.ok t (List.mem_cons_self ..)))))) (mem_nil _)
  | s :: a, [], ha, _, h => absurd ((h (aNum s)).mp ((mem_cons _ _ _).mpr (.inl (aNum_in s (ha.ok s (List.mem_cons_self ..)))))) (mem_nil _)
  | s :: a, t :: b, ha, hb, h => by
    have l1 := low_same ha hb fun n => (h n).mp
    have l2 := low_same hb ha fun n => (h n).mpr
    have el : s.1 = t.1 := by
      revert l1 l2
      cases s.1 <;> cases t.1 <;> simp [DL.lowLe]
      omega
    have h1 := high_same ha hb h el
    have h2 := high_same hb ha (fun n => (h n).symm) el.symm
    have eh : s.2 = t.2 := by
      cases e : s.2 with
      | none =>
        cases e2 : t.2 with
        | none => rfl
        | some z =>
          obtain ⟨y, hy, _⟩ := h2 z e2
          rw [e] at hy; cases hy
      | some y =>
        obtain ⟨z, hz, hzy⟩ := h1 y e
        obtain ⟨y', hy', hyz⟩ := h2 z hz
        rw [e] at hy'; cases hy'
        rw [hz]
        congr 1
        omega
    have est : s = t := Prod.ext el eh
    subst est
    have : a = b := canon_unique a b ha.tail hb.tail fun n => by
      have q := h n
      rw [mem_cons, mem_cons] at q
      constructor
      · intro z
        exact (q.mp (.inr z)).elim (fun w => absurd w (later ha z)) id
      · intro z
        exact (q.mpr (.inr z)).elim (fun w => absurd w (later hb z)) id
    rw [this]
end Q0

set_option Elab.async false
set_option linter.all false
set_option maxRecDepth 100000
set_option maxHeartbeats 4000000
/-! K6: has_number. -/
namespace DL
open PySem
theorem ev_andVT {ρ : Sl} {bx b : List D} {m m' : ME} (h : m ρ bx = .ok (.val (.bl true)) b) : mAndV m m' ρ bx = m' ρ b := by unfold mAndV; rw [ev_test h]; rfl
theorem ev_andVF {ρ : Sl} {bx b : List D} {m m' : ME} (h : m ρ bx = .ok (.val (.bl false)) b) : mAndV m m' ρ bx = .ok (.val (.bl false)) b := by unfold mAndV; rw [ev_test h]; rfl
theorem ev_orVT {ρ : Sl} {bx b : List D} {m m' : ME} (h : m ρ bx = .ok (.val (.bl true)) b) : mOrV m m' ρ bx = .ok (.val (.bl true)) b := by unfold mOrV; rw [ev_test h]; rfl
theorem ev_orVF {ρ : Sl} {bx b : List D} {m m' : ME} (h : m ρ bx = .ok (.val (.bl false)) b) : mOrV m m' ρ bx = m' ρ b := by unfold mOrV; rw [ev_test h]; rfl
/-- a comprehension without conditions whose elements are values -/
theorem comp_map {α : Type} (f : α → D) (g' : α → D) {g : D → Sl → Option Sl} {m : ME} {ρ : Sl} {bx : List D} (h : ∀ a, ∃ ρ1, g (f a) ρ = some ρ1 ∧ m ρ1 bx = .ok (.val (g' a)) bx) : ∀ (as : List α) (acc : List D), acc.length + as.length ≤ sizeLine →
    compL g mYes m (as.map f) ρ bx acc = .ok (acc ++ as.map g') bx
  | [], acc, _ => by simp [compL]
  | a :: as, acc, hl => by
    obtain ⟨ρ1, h1, h2⟩ := h a
    rw [List.length_cons] at hl
    have hz : (acc ++ [g' a]).length + as.length ≤ sizeLine := by rw [List.length_append, List.length_singleton]; omega
    have e := comp_map f g' h as (acc ++ [g' a]) hz
    rw [List.map_cons, List.map_cons]
    unfold compL
    rw [h1]
    simp only [mYes, noX, Out.bind_ok, if_true]
    rw [h2]
    simp only [Out.bind_ok]
    rw [if_pos (by omega)]
    show compL g mYes m (as.map f) ρ bx (acc ++ [g' a]) = _
    rw [e]
    simp
end DL
namespace Q0
open PySem DL
def loB (s : Stretch) (n : Int) : Bool := match s.1 with
  | none => true
  | some l => decide (l ≤ n)
def hiB (s : Stretch) (n : Int) : Bool := match s.2 with
  | none => true
  | some h => decide (n ≤ h)
theorem hn_elt (x : D) (n : Int) (s : Stretch) (bx : List D) : mAndV (mOrV (mUn isN (mVar 2)) (mBin leI (mVar 2) (mVar 1))) (mOrV (mUn isN (mVar 3)) (mBin leI (mVar 1) (mVar 3))) [some x, some (.int n), some (oD s.1), some (oD s.2)] bx = .ok (.val (.bl (loB s n && hiB s n))) bx := by
  obtain ⟨l, h⟩ := s
  have e1 : mOrV (mUn isN (mVar 2)) (mBin leI (mVar 2) (mVar 1)) [some x, some (.int n), some (oD l), some (oD h)] bx = .ok (.val (.bl (loB (l, h) n))) bx := by
    cases l with
    | none => exact ev_orVT rfl
    | some l => exact (ev_orVF (b := bx) rfl).trans rfl
  have e2 : mOrV (mUn isN (mVar 3)) (mBin leI (mVar 1) (mVar 3)) [some x, some (.int n), some (oD l), some (oD h)] bx = .ok (.val (.bl (hiB (l, h) n))) bx := by
    cases h with
    | none => exact ev_orVT rfl
    | some h => exact (ev_orVF (b := bx) rfl).trans rfl
  cases q : loB (l, h) n with
  | true => rw [q] at e1; rw [ev_andVT e1, e2]; rfl
  | false => rw [q] at e1; rw [ev_andVF e1]; rfl
def inB (s : Stretch) (n : Int) : Bool := loB s n && hiB s n
theorem bls_map {α : Type} (f : α → Bool) : ∀ as : List α, D.bls (as.map fun a => .bl (f a)) = some (as.map f)
  | [] => rfl
  | a :: as => by
    show (D.bls (as.map fun a => .bl (f a))).map (f a :: ·) = _
    rw [bls_map f as]; rfl
theorem c_has_number (CA : Ly) {x : D} {st : List Stretch} {n : Int} {bx : List D} (hx : x = .tup (st.map sD) ∨ x = .lst (st.map sD)) (hl : st.length ≤ sizeLine) : r_has_number CA [x, .int n] bx = .ok (.val (.bl (st.any fun s => inB s n))) bx := by
  refine run_rt ?_
  have e := comp_map (g := gTup [(gN 2), (gN 3)]) (ρ := [some x, some (.int n), none, none]) (bx := bx) (f := sD) (g' := fun s => .bl (inB s n)) (fun s => ⟨[some x, some (.int n), some (oD s.1), some (oD s.2)], rfl, hn_elt x n s bx⟩) st [] (by simpa using hl)
  have a1 : mComp (iSeq (mVar 0)) (([("low", 2), ("high", 3)] : List (PySem.Str × Nat)).map (·.2)) (gTup [(gN 2), (gN 3)]) mYes (mAndV (mOrV (mUn isN (mVar 2)) (mBin leI (mVar 2) (mVar 1))) (mOrV (mUn isN (mVar 3)) (mBin leI (mVar 1) (mVar 3)))) [some x, some (.int n), none, none] bx = .ok (.new (.lst (st.map fun s => .bl (inB s n)))) bx := by
    unfold mComp
    have a2 : iSeq (mVar 0) [some x, some (.int n), none, none] bx = .ok (st.map sD) bx := by rcases hx with rfl | rfl <;> rfl
    rw [a2]
    show (compL _ _ _ (st.map sD) [some x, some (.int n), none, none] bx []).bind _ = _
    rw [e]
    simp
  refine ev_ret (m := mCB (un1 anyD) _) ?_
  rw [show ([x, D.int n].map some ++ List.replicate (4 - [x, D.int n].length) none : Sl) = [some x, some (.int n), none, none] from rfl, ev_CB (ev_cons a1 ev_nil)]
  show (match D.bls (st.map fun s => .bl (inB s n)) with | some bs => OK (.bl (bs.any id)) bx | none => .stk) = _
  rw [bls_map]
  show OK (.bl ((st.map fun s => inB s n).any id)) bx = _
  rw [List.any_map]
  rfl
end Q0

set_option Elab.async false
set_option linter.all false
set_option maxRecDepth 100000
set_option maxHeartbeats 4000000
/-! K7: outside, common: their plain meaning. -/
namespace Q0
/-- what outside computes, from a low end on -/
def outL : Option Int → List Stretch → List Stretch
  | low, [] => [(low, none)]
  | low, (f, l) :: ps => (match f with
    | some f => [(low, some (f - 1))]
    | none => []) ++ (match l with
    | none => []
    | some l => outL (some (l + 1)) ps)
/-- what is in both of two stretches -/
def cut2 (s t : Stretch) : Stretch := (hiLow s.1 t.1, loHigh s.2 t.2)
def commonL (a b : List Stretch) : List Stretch := joinL (a.flatMap fun s => (b.map (cut2 s)).filter fun e => !emp e.1 e.2)
theorem in_cut (s t : Stretch) (n : Int) : inS (cut2 s t) n ↔ inS s n ∧ inS t n := by
  obtain ⟨a, b⟩ := s
  obtain ⟨l, h⟩ := t
  cases a <;> cases b <;> cases l <;> cases h <;> simp_all [inS, cut2, hiLow, loHigh] <;> omega
theorem emp_ok (s : Stretch) : emp s.1 s.2 = false ↔ okS s := by
  obtain ⟨a, b⟩ := s
  cases a <;> cases b <;> simp [emp, okS]
theorem common_ok {a b : List Stretch} : Canon (commonL a b) ∧ ∀ n, mem (commonL a b) n ↔ mem a n ∧ mem b n := by
  have hv : ∀ s ∈ (a.flatMap fun s => (b.map (cut2 s)).filter fun e => !emp e.1 e.2), okS s := fun s hs => by
    obtain ⟨x, _, hx⟩ := List.mem_flatMap.mp hs
    have := (List.mem_filter.mp hx).2
    exact (emp_ok s).mp (by simpa using this)
  obtain ⟨h1, h2⟩ := join_ok hv
  refine ⟨h1, fun n => (h2 n).trans ⟨?_, ?_⟩⟩
  · rintro ⟨e, he, hi⟩
    obtain ⟨s, hs, hx⟩ := List.mem_flatMap.mp he
    obtain ⟨t, ht, rfl⟩ := List.mem_map.mp (List.mem_filter.mp hx).1
    obtain ⟨i1, i2⟩ := (in_cut s t n).mp hi
    exact ⟨⟨s, hs, i1⟩, ⟨t, ht, i2⟩⟩
  · rintro ⟨⟨s, hs, i1⟩, ⟨t, ht, i2⟩⟩
    have hi := (in_cut s t n).mpr ⟨i1, i2⟩
    have ho : okS (cut2 s t) := fun l h e1 e2 => by
      have a1 := hi.1 l e1
      have a2 := hi.2 h e2
      omega
    exact ⟨cut2 s t, List.mem_flatMap.mpr ⟨s, hs, List.mem_filter.mpr ⟨List.mem_map.mpr ⟨t, ht, rfl⟩, by simpa using (emp_ok _).mpr ho⟩⟩, hi⟩
/-- from low on -/
def from_ (low : Option Int) (n : Int) : Prop := ∀ l, low = some l → l ≤ n
theorem outL_mem : ∀ (ps : List Stretch) (low : Option Int), Canon ps → (∀ l, low = some l → ∀ s ∈ ps, ∃ c, s.1 = some c ∧ l ≤ c) → ∀ n, mem (outL low ps) n ↔ from_ low n ∧ ¬ mem ps n
  | [], low, _, _, n => by
    show mem [(low, none)] n ↔ _
    rw [mem_one]
    exact ⟨fun h => ⟨h.1, mem_nil n⟩, fun h => ⟨h.1, fun x hx => by cases hx⟩⟩
  | (f, l) :: ps, low, hc, hl, n => by
    have ok := hc.ok (f, l) (List.mem_cons_self ..)
    have gp := (List.pairwise_cons.mp hc.gaps).1
    have later_ : ∀ {n : Int}, mem ps n → ∃ b, l = some b ∧ b + 1 < n := fun {n} ⟨z, hz, hi⟩ => by
      obtain ⟨b, c, h1, h2, h3⟩ := gp z hz
      exact ⟨b, h1, Int.lt_of_lt_of_le h3 (hi.1 c h2)⟩
    rw [mem_cons]
    unfold outL
    rw [mem_append]
    constructor
    · rintro (h | h)
      · cases f with
        | none => exact absurd h (mem_nil n)
        | some f =>
          obtain ⟨h1, h2⟩ := (mem_one _ _).mp h
          have h3 := h2 (f - 1) rfl
          refine ⟨h1, fun q => q.elim (fun q => ?_) fun q => ?_⟩
          · have := q.1 f rfl; omega
          · obtain ⟨b, e, hb⟩ := later_ q
            have := ok f b rfl e
            omega
      · cases l with
        | none => exact absurd h (mem_nil n)
        | some l =>
          have ih := outL_mem ps (some (l + 1)) hc.tail (fun x hx s hs => by
            cases hx
            obtain ⟨b, c, h1, h2, h3⟩ := gp s hs
            cases h1
            exact ⟨c, h2, by omega⟩) n
          obtain ⟨h1, h2⟩ := ih.mp h
          have h3 := h1 (l + 1) rfl
          refine ⟨fun x hx => ?_, fun q => q.elim (fun q => ?_) h2⟩
          · obtain ⟨c, e, hxc⟩ := hl x hx (f, some l) (List.mem_cons_self ..)
            have := ok c l e rfl
            omega
          · have := q.2 l rfl; omega
    · rintro ⟨h1, h2⟩
      by_cases hf : ∃ x, f = some x ∧ n < x
      · obtain ⟨x, rfl, hx⟩ := hf
        refine .inl ((mem_one _ _).mpr ⟨h1, fun y hy => ?_⟩)
        cases hy; omega
      · cases l with
        | none =>
          exfalso
          exact h2 (.inl ⟨fun x hx => Int.not_lt.mp fun z => hf ⟨x, hx, z⟩, fun y hy => by cases hy⟩)
        | some l =>
          have hn : l < n := Int.not_le.mp fun z => h2 (.inl ⟨fun x hx => Int.not_lt.mp fun w => hf ⟨x, hx, w⟩, fun y hy => by cases hy; exact z⟩)
          refine .inr ((outL_mem ps (some (l + 1)) hc.tail (fun x hx s hs => by
            cases hx
            obtain ⟨b, c, h1, h2, h3⟩ := gp s hs
            cases h1
            exact ⟨c, h2, by omega⟩) n).mpr ⟨fun x hx => by cases hx; omega, fun q => h2 (.inr q)⟩)
end Q0

set_option Elab.async false
set_option linter.all false
set_option maxRecDepth 100000
set_option maxHeartbeats 4000000
/-! K8: closed boxes, loops, plain facts about data. -/
namespace DL
open PySem
/-- the boxes know no box beyond them -/
abbrev Cb (bx : List D) : Prop := bx.all (D.cl bx.length) = true
mutual
theorem cl_mono {b b' : Nat} (h : b ≤ b') : ∀ d : D, d.cl b = true → d.cl b' = true
  | .tup ds, q => cls_mono h ds q
  | .lst ds, q => cls_mono h ds q
  | .rol ds, q => cls_mono h ds q
  | .ins _ _ ds, q => cls_mono h ds q
  | .dk _ ds, q => cls_mono h ds q
  | .dt _ ds, q => cls_mono h ds q
  | .box n, q => decide_eq_true (Nat.lt_of_lt_of_le (of_decide_eq_true q) h)
  | .non, _ => rfl
  | .bl _, _ => rfl
  | .int _, _ => rfl
  | .str _, _ => rfl
  | .adr _, _ => rfl
  | .ty _, _ => rfl
theorem cls_mono {b b' : Nat} (h : b ≤ b') : ∀ ds : List D, D.cls b ds = true → D.cls b' ds = true
  | [], _ => rfl
  | d :: ds, q => by
    have q' : (d.cl b && D.cls b ds) = true := q
    rw [Bool.and_eq_true] at q'
    show (d.cl b' && D.cls b' ds) = true
    rw [cl_mono h d q'.1, cls_mono h ds q'.2]; rfl
end
theorem Cb.snoc {bx : List D} {d : D} (h : Cb bx) (hd : d.cl (bx.length + 1) = true) : Cb (bx ++ [d]) := by
  unfold Cb at *
  rw [List.all_append, List.length_append, List.length_singleton, Bool.and_eq_true]
  refine ⟨?_, by simp [hd]⟩
  rw [List.all_eq_true] at *
  exact fun x hx => cl_mono (Nat.le_succ _) x (h x hx)
theorem Cb.head {d d' : D} {bx : List D} (h : Cb (d :: bx)) (hd : d'.cl (bx.length + 1) = true) : Cb (d' :: bx) := by
  unfold Cb at *
  rw [List.all_cons, List.length_cons, Bool.and_eq_true] at *
  exact ⟨hd, h.2⟩
section
variable {g : D → Sl → Option Sl} {m : MS} {d : D} {ds : List D} {ρ ρ1 ρ' : Sl} {bx b' : List D} {r : R}
theorem loop_nx (h1 : g d ρ = some ρ1) (h2 : m ρ1 bx = .nx ρ' b') : loop g m (d :: ds) ρ bx = loop g m ds ρ' b' := by
  show (match g d ρ with
    | none => OutS.stk
    | some ρ1 => (match m ρ1 bx with
      | .nx ρ' b' => loop g m ds ρ' b'
      | .ct ρ' b' => loop g m ds ρ' b'
      | .bk ρ' b' => .nx ρ' b'
      | o => o)) = _
  rw [h1]; simp only; rw [h2]
theorem loop_rt (h1 : g d ρ = some ρ1) (h2 : m ρ1 bx = .rt r b') : loop g m (d :: ds) ρ bx = .rt r b' := by
  show (match g d ρ with
    | none => OutS.stk
    | some ρ1 => (match m ρ1 bx with
      | .nx ρ' b' => loop g m ds ρ' b'
      | .ct ρ' b' => loop g m ds ρ' b'
      | .bk ρ' b' => .nx ρ' b'
      | o => o)) = _
  rw [h1]; simp only; rw [h2]
end
/-- a loop with an invariant -/
theorem loop_inv {α : Type} (f : α → D) {g : D → Sl → Option Sl} {m : MS} (P : List α → Sl → List D → Prop)
    (step : ∀ a as ρ bx, P (a :: as) ρ bx → ∃ ρ1 ρ' b', g (f a) ρ = some ρ1 ∧ m ρ1 bx = .nx ρ' b' ∧ P as ρ' b') :
    ∀ as ρ bx, P as ρ bx → ∃ ρ' b', loop g m (as.map f) ρ bx = .nx ρ' b' ∧ P [] ρ' b'
  | [], ρ, bx, h => ⟨ρ, bx, rfl, h⟩
  | a :: as, ρ, bx, h => by
    obtain ⟨ρ1, ρ2, b2, e1, e2, h2⟩ := step a as ρ bx h
    obtain ⟨ρ3, b3, e3, h3⟩ := loop_inv f P step as ρ2 b2 h2
    exact ⟨ρ3, b3, by rw [List.map_cons, loop_nx e1 e2, e3], h3⟩
/-- a loop that looks for one and returns -/
theorem loop_find {α : Type} (f : α → D) (p : α → Bool) (Sim : Sl → Prop) {g : D → Sl → Option Sl} {m : MS} {r : R} {bx : List D} :
    ∀ (as : List α) (_ : ∀ a ∈ as, ∀ ρ, Sim ρ → ∃ ρ1, g (f a) ρ = some ρ1 ∧ ((p a = true ∧ ∃ ρ2, m ρ1 bx = .nx ρ2 bx ∧ Sim ρ2) ∨ (p a = false ∧ m ρ1 bx = .rt r bx))) (ρ : Sl), Sim ρ →
    (as.all p = true ∧ ∃ ρ', loop g m (as.map f) ρ bx = .nx ρ' bx ∧ Sim ρ') ∨ (as.all p = false ∧ loop g m (as.map f) ρ bx = .rt r bx)
  | [], _, ρ, h => .inl ⟨rfl, ρ, rfl, h⟩
  | a :: as, hb, ρ, h => by
    obtain ⟨ρ1, e1, q⟩ := hb a (List.mem_cons_self ..) ρ h
    rcases q with ⟨hp, ρ2, e2, h2⟩ | ⟨hp, e2⟩
    · rcases loop_find f p Sim as (fun x hx => hb x (List.mem_cons_of_mem _ hx)) ρ2 h2 with ⟨k, ρ3, e3, h3⟩ | ⟨k, e3⟩
      · exact .inl ⟨by rw [List.all_cons, hp, k]; rfl, ρ3, by rw [List.map_cons, loop_nx e1 e2, e3], h3⟩
      · exact .inr ⟨by rw [List.all_cons, hp, k]; rfl, by rw [List.map_cons, loop_nx e1 e2, e3]⟩
    · exact .inr ⟨by rw [List.all_cons, hp]; rfl, by rw [List.map_cons, loop_rt e1 e2]⟩
/-- a loop over a box that nothing touches -/
theorem loopB_go {xs : List D} {n : Nat} (Sim : Sl → Prop) {g : D → Sl → Option Sl} {m : MS} {bx : List D} (hx : bx[n]? = some (.lst xs))
    (hb : ∀ d ∈ xs, ∀ ρ, Sim ρ → ∃ ρ1 ρ2, g d ρ = some ρ1 ∧ m ρ1 bx = .nx ρ2 bx ∧ Sim ρ2) : ∀ (k i : Nat) (ρ : Sl), xs.length < k + i → i ≤ xs.length → Sim ρ → ∃ ρ', loopB g m n k i ρ bx = .nx ρ' bx ∧ Sim ρ'
  | 0, i, ρ, h, h', _ => by omega
  | k + 1, i, ρ, h, h', s => by
    show ∃ ρ', (match bx[n]? with
    | some (.lst xs) => (match xs[i]? with
      | none => OutS.nx ρ bx
      | some d => (match g d ρ with
        | none => .stk
        | some ρ' => (match m ρ' bx with
          | .nx ρ2 b2 => loopB g m n k (i + 1) ρ2 b2
          | .ct ρ2 b2 => loopB g m n k (i + 1) ρ2 b2
          | .bk ρ2 b2 => .nx ρ2 b2
          | o => o)))
    | _ => .stk) = .nx ρ' bx ∧ Sim ρ'
    rw [hx]
    simp only
    cases q : xs[i]? with
    | none => exact ⟨ρ, rfl, s⟩
    | some d =>
      obtain ⟨ρ1, ρ2, e1, e2, s2⟩ := hb d (List.mem_of_getElem? q) ρ s
      have hi : i < xs.length := (List.getElem?_eq_some_iff.mp q).1
      obtain ⟨ρ3, e3, s3⟩ := loopB_go Sim hx hb k (i + 1) ρ2 (by omega) hi s2
      refine ⟨ρ3, ?_, s3⟩
      simp only [e1, e2, e3]
/-- a comprehension with a condition, all of it values -/
theorem comp_filter {α : Type} (f : α → D) (p : α → Bool) (g' : α → D) (Sim : Sl → Prop) {g : D → Sl → Option Sl} {t : MB} {m : ME} {bx : List D} : ∀ (as : List α)
    (_ : ∀ a ∈ as, ∀ ρ, Sim ρ → ∃ ρ1, g (f a) ρ = some ρ1 ∧ Sim ρ1 ∧ t ρ1 bx = .ok (p a) bx ∧ (p a = true → m ρ1 bx = .ok (.val (g' a)) bx)) (ρ : Sl) (acc : List D), Sim ρ → acc.length + as.length ≤ sizeLine →
    compL g t m (as.map f) ρ bx acc = .ok (acc ++ (as.filter p).map g') bx
  | [], _, ρ, acc, _, hl => by simp [compL]
  | a :: as, h, ρ, acc, s, hl => by
    obtain ⟨ρ1, h1, s1, h2, h3⟩ := h a (List.mem_cons_self ..) ρ s
    rw [List.length_cons] at hl
    rw [List.map_cons]
    unfold compL
    rw [h1]
    simp only [h2, noX, Out.bind_ok]
    cases hp : p a with
    | true =>
      have hz : (acc ++ [g' a]).length + as.length ≤ sizeLine := by rw [List.length_append, List.length_singleton]; omega
      have e := comp_filter f p g' Sim as (fun x hx => h x (List.mem_cons_of_mem _ hx)) ρ (acc ++ [g' a]) s hz
      simp only [if_true, h3 hp, Out.bind_ok]
      rw [if_pos (by omega)]
      show compL g t m (as.map f) ρ bx (acc ++ [g' a]) = _
      rw [e, List.filter_cons, hp]
      simp
    | false =>
      have e := comp_filter f p g' Sim as (fun x hx => h x (List.mem_cons_of_mem _ hx)) ρ acc s (by omega)
      simp only [Bool.false_eq_true, if_false]
      rw [e, List.filter_cons, hp]
      simp
theorem body_nw {n k : Nat} {m : MS} {ds bx b ex : List D} {d : D} {j : Nat} (h : m (ds.map some ++ List.replicate (n - ds.length) none) bx = .rt (.val (.box j)) b) (hb : b.length = bx.length + 1) (hj : j = bx.length) (hd : b[j]? = some d) (hc : (b.take bx.length).all (D.cl bx.length) = true) (hcd : d.cl bx.length = true) (hk : ds.length = k := by rfl) : ar k (body n m) ds bx = .ok (.new d) (b.take bx.length) := by
  rw [ar_ok hk]
  unfold body
  rw [h]
  show leave bx.length (.val (.box j)) b = _
  unfold leave
  rw [if_neg (by omega), if_pos hc]
  simp only
  rw [if_neg (by omega), hd]
  simp only
  rw [if_pos hcd]
/-- a def that boxes something, and changes the first box -/
theorem run_rtX {n k : Nat} {m : MS} {ds bx b : List D} {d : D} (h : m (ds.map some ++ List.replicate (n - ds.length) none) bx = .rt (.val d) b) (hl : bx.length ≤ b.length) (hb : (b.take bx.length).all (D.cl bx.length) = true) (hd : d.cl bx.length = true) (hn : ∀ j, d ≠ .box j) (hk : ds.length = k := by rfl) : ar k (body n m) ds bx = .ok (.val d) (b.take bx.length) := by
  rw [ar_ok hk]
  unfold body
  rw [h]
  show leave bx.length (.val d) b = _
  unfold leave
  by_cases e : b.length = bx.length
  · rw [if_pos e, ← e, List.take_length]
  · rw [if_neg e, if_pos hb]
    cases d with
    | box j => exact absurd rfl (hn j)
    | _ => simp only [hd, if_true]
end DL

set_option Elab.async false
set_option linter.all false
set_option maxRecDepth 100000
set_option maxHeartbeats 4000000
/-! K9: common, outside. -/
namespace DL
open PySem
theorem ev_app {mo : ME} {ma : MA} {ρ : Sl} {bx b : List D} {n : Nat} {xs : List D} {d : D} (ho : mo ρ bx = .ok (.val (.box n)) bx) (hx : bx[n]? = some (.lst xs)) (ha : ma ρ bx = .ok [d] b) (hx' : b[n]? = some (.lst xs)) (hl : xs.length < sizeLine) : mExpr (mBm appD mo ma) ρ bx = .nx ρ (b.set n (.lst (xs ++ [d]))) := by
  refine ev_expr (r := .val .non) ?_
  unfold mBm
  rw [ho]
  have e1 : D.sL bx (.box n) = some xs := by
    show (match bx[n]? with | some (.lst ds) => some ds | _ => none) = _
    rw [hx]
  simp only [Out.bind_ok]
  show (match D.sL bx (.box n) with | some _ => _ | none => _) = _
  rw [e1]
  simp only [ha, Out.bind_ok]
  show (match b[n]? with | some (.lst xs) => if xs.length < sizeLine then OK .non (b.set n (.lst (xs ++ [d]))) else .stk | _ => .stk) = _
  rw [hx']
  simp only
  rw [if_pos hl]
end DL
namespace Q0
open PySem DL
theorem get_end (B : List D) (x : D) : (B ++ [x])[B.length]? = some x := by simp
theorem set_end (B : List D) (x y : D) : (B ++ [x]).set B.length y = B ++ [y] := by simp
section
variable {CA : Ly} {B : List D} {x y : D}
def m_cin (CA : Ly) : MS := mSeq (mAsg (mTup (aCons (mF (r_higher_low CA) (aCons (mVar 3) (aCons (mVar 5) aNil))) (aCons (mF (r_lower_high CA) (aCons (mVar 4) (aCons (mVar 6) aNil))) aNil))) (gN 7))
    (mIfS (mNot (mTest (mF (r_is_empty CA) (aCons (mBin ixD (mVar 7) (mC (.int 0))) (aCons (mBin ixD (mVar 7) (mC (.int 1))) aNil))))) (mExpr (mBm appD (mVar 2) (aCons (mVar 7) aNil))) mSkip)
theorem m_common_eq (CA : Ly) : m_common CA = mSeq (mBox (mLst aNil) 2) (mSeq (mFor (iSeq (mVar 0)) (gTup [(gN 3), (gN 4)]) (mFor (iSeq (mVar 1)) (gTup [(gN 5), (gN 6)]) (m_cin CA))) (mRet (mF (r_joined CA) (aCons (mVar 2) aNil)))) := rfl
theorem cin_ok (CA : Ly) {s t : Stretch} {acc : List Stretch} {o : Option D} (hl : acc.length < sizeLine) :
    m_cin CA [some x, some y, some (.box B.length), some (oD s.1), some (oD s.2), some (oD t.1), some (oD t.2), o] (B ++ [.lst (acc.map sD)]) =
    .nx [some x, some y, some (.box B.length), some (oD s.1), some (oD s.2), some (oD t.1), some (oD t.2), some (sD (cut2 s t))] (B ++ [.lst ((acc ++ [cut2 s t].filter fun e => !emp e.1 e.2).map sD)]) := by
  have e1 : mF (r_higher_low CA) (aCons (mVar 3) (aCons (mVar 5) aNil)) [some x, some y, some (.box B.length), some (oD s.1), some (oD s.2), some (oD t.1), some (oD t.2), o] (B ++ [.lst (acc.map sD)]) = .ok (.val (oD (hiLow s.1 t.1))) (B ++ [.lst (acc.map sD)]) :=
    (ev_F (ev_cons (r := .val (oD s.1)) rfl (ev_cons (r := .val (oD t.1)) rfl ev_nil))).trans (c_higher_low CA s.1 t.1 _)
  have e2 : mF (r_lower_high CA) (aCons (mVar 4) (aCons (mVar 6) aNil)) [some x, some y, some (.box B.length), some (oD s.1), some (oD s.2), some (oD t.1), some (oD t.2), o] (B ++ [.lst (acc.map sD)]) = .ok (.val (oD (loHigh s.2 t.2))) (B ++ [.lst (acc.map sD)]) :=
    (ev_F (ev_cons (r := .val (oD s.2)) rfl (ev_cons (r := .val (oD t.2)) rfl ev_nil))).trans (c_lower_high CA s.2 t.2 _)
  have e3 : mTup (aCons (mF (r_higher_low CA) (aCons (mVar 3) (aCons (mVar 5) aNil))) (aCons (mF (r_lower_high CA) (aCons (mVar 4) (aCons (mVar 6) aNil))) aNil)) [some x, some y, some (.box B.length), some (oD s.1), some (oD s.2), some (oD t.1), some (oD t.2), o] (B ++ [.lst (acc.map sD)]) = .ok (.val (sD (cut2 s t))) (B ++ [.lst (acc.map sD)]) := by
    unfold mTup
    rw [ev_cons e1 (ev_cons e2 ev_nil)]
    rfl
  have e4 := ev_asg (i := 7) e3
  unfold m_cin
  rw [ev_seq e4]
  show mIfS _ _ _ [some x, some y, some (.box B.length), some (oD s.1), some (oD s.2), some (oD t.1), some (oD t.2), some (sD (cut2 s t))] (B ++ [.lst (acc.map sD)]) = _
  have e5 : mNot (mTest (mF (r_is_empty CA) (aCons (mBin ixD (mVar 7) (mC (.int 0))) (aCons (mBin ixD (mVar 7) (mC (.int 1))) aNil)))) [some x, some y, some (.box B.length), some (oD s.1), some (oD s.2), some (oD t.1), some (oD t.2), some (sD (cut2 s t))] (B ++ [.lst (acc.map sD)]) = .ok (!emp (cut2 s t).1 (cut2 s t).2) (B ++ [.lst (acc.map sD)]) :=
    ev_not (ev_test ((ev_F (ev_cons (r := .val (oD (cut2 s t).1)) rfl (ev_cons (r := .val (oD (cut2 s t).2)) rfl ev_nil))).trans (c_is_empty CA _ _ _)))
  cases q : emp (cut2 s t).1 (cut2 s t).2 with
  | true =>
    rw [q] at e5
    rw [ev_ifF e5, List.filter_cons, q]
    simp [mSkip]
  | false =>
    rw [q] at e5
    rw [ev_ifT e5, List.filter_cons, q]
    rw [ev_app (n := B.length) (xs := acc.map sD) (d := sD (cut2 s t)) (b := B ++ [.lst (acc.map sD)]) rfl (get_end ..) rfl (get_end ..) (by simpa using hl), set_end]
    simp
theorem cin_loop (CA : Ly) (s : Stretch) : ∀ (ts acc : List Stretch) (o5 o6 o7 : Option D), acc.length + ts.length ≤ sizeLine →
    ∃ p5 p6 p7, loop (gTup [(gN 5), (gN 6)]) (m_cin CA) (ts.map sD) [some x, some y, some (.box B.length), some (oD s.1), some (oD s.2), o5, o6, o7] (B ++ [.lst (acc.map sD)]) = .nx [some x, some y, some (.box B.length), some (oD s.1), some (oD s.2), p5, p6, p7] (B ++ [.lst ((acc ++ (ts.map (cut2 s)).filter fun e => !emp e.1 e.2).map sD)])
  | [], acc, o5, o6, o7, _ => ⟨o5, o6, o7, by simp [loop]⟩
  | t :: ts, acc, o5, o6, o7, hl => by
    rw [List.length_cons] at hl
    have h2 : (acc ++ [cut2 s t].filter fun e => !emp e.1 e.2).length + ts.length ≤ sizeLine := by
      have : ([cut2 s t].filter fun e => !emp e.1 e.2).length ≤ 1 := List.length_filter_le ..
      rw [List.length_append]; omega
    obtain ⟨p5, p6, p7, e⟩ := cin_loop CA s ts (acc ++ [cut2 s t].filter fun e => !emp e.1 e.2) (some (oD t.1)) (some (oD t.2)) (some (sD (cut2 s t))) h2
    refine ⟨p5, p6, p7, ?_⟩
    rw [List.map_cons, loop_nx (ρ1 := [some x, some y, some (.box B.length), some (oD s.1), some (oD s.2), some (oD t.1), some (oD t.2), o7]) rfl (cin_ok CA (by omega)), e, List.append_assoc]
    congr 6
    rw [← List.filter_append]
    rfl
theorem cout_loop (CA : Ly) {ts : List Stretch} (hy : y.it = some (ts.map sD)) : ∀ (ss acc : List Stretch) (o3 o4 o5 o6 o7 : Option D), acc.length + ss.length * ts.length ≤ sizeLine →
    ∃ p3 p4 p5 p6 p7, loop (gTup [(gN 3), (gN 4)]) (mFor (iSeq (mVar 1)) (gTup [(gN 5), (gN 6)]) (m_cin CA)) (ss.map sD) [some x, some y, some (.box B.length), o3, o4, o5, o6, o7] (B ++ [.lst (acc.map sD)]) = .nx [some x, some y, some (.box B.length), p3, p4, p5, p6, p7] (B ++ [.lst ((acc ++ ss.flatMap fun s => (ts.map (cut2 s)).filter fun e => !emp e.1 e.2).map sD)])
  | [], acc, o3, o4, o5, o6, o7, _ => ⟨o3, o4, o5, o6, o7, by simp [loop]⟩
  | s :: ss, acc, o3, o4, o5, o6, o7, hl => by
    rw [List.length_cons, Nat.succ_mul] at hl
    obtain ⟨p5, p6, p7, e⟩ := cin_loop (x := x) (y := y) (B := B) CA s ts acc o5 o6 o7 (by omega)
    have h2 : (acc ++ (ts.map (cut2 s)).filter fun e => !emp e.1 e.2).length + ss.length * ts.length ≤ sizeLine := by
      have : ((ts.map (cut2 s)).filter fun e => !emp e.1 e.2).length ≤ ts.length := by
        refine Nat.le_trans (List.length_filter_le ..) ?_
        simp
      rw [List.length_append]; omega
    obtain ⟨q3, q4, q5, q6, q7, e2⟩ := cout_loop CA hy ss (acc ++ (ts.map (cut2 s)).filter fun e => !emp e.1 e.2) (some (oD s.1)) (some (oD s.2)) p5 p6 p7 h2
    refine ⟨q3, q4, q5, q6, q7, ?_⟩
    have e3 : mFor (iSeq (mVar 1)) (gTup [(gN 5), (gN 6)]) (m_cin CA) [some x, some y, some (.box B.length), some (oD s.1), some (oD s.2), o5, o6, o7] (B ++ [.lst (acc.map sD)]) = .nx [some x, some y, some (.box B.length), some (oD s.1), some (oD s.2), p5, p6, p7] (B ++ [.lst ((acc ++ (ts.map (cut2 s)).filter fun e => !emp e.1 e.2).map sD)]) := by
      unfold mFor iSeq
      show liftE (match y.it with | some ds => .ok ds (B ++ [.lst (acc.map sD)]) | none => .stk) _ _ = _
      rw [hy]
      exact e
    rw [List.map_cons, loop_nx (ρ1 := [some x, some y, some (.box B.length), some (oD s.1), some (oD s.2), o5, o6, o7]) rfl e3, e2, List.flatMap_cons, List.append_assoc]
theorem c_common (CA : Ly) {bx : List D} {a b : List Stretch} (hx : x.it = some (a.map sD)) (hy : y.it = some (b.map sD)) (hl : a.length * b.length ≤ sizeLine) (hb : Cb bx) : r_common CA [x, y] bx = .ok (.val (.tup ((commonL a b).map sD))) bx := by
  obtain ⟨p3, p4, p5, p6, p7, e⟩ := cout_loop (x := x) (y := y) (B := bx) CA hy a [] none none none none none (by simpa using hl)
  rw [List.nil_append] at e
  generalize ht : (a.flatMap fun s => (b.map (cut2 s)).filter fun e => !emp e.1 e.2) = tot at e
  refine run_rtC (ex := [.lst (tot.map sD)]) ?_ hb (cls_s _ _) (fun j z => by cases z)
  rw [m_common_eq]
  have a1 : mBox (mLst aNil) 2 [some x, some y, none, none, none, none, none, none] bx = .nx [some x, some y, some (.box bx.length), none, none, none, none, none] (bx ++ [.lst []]) := ev_box (m := mLst aNil) (i := 2) (d := .lst []) (b := bx) rfl
  rw [show ([x, y].map some ++ List.replicate (8 - [x, y].length) none : Sl) = [some x, some y, none, none, none, none, none, none] from rfl, ev_seq a1]
  have a2 : mFor (iSeq (mVar 0)) (gTup [(gN 3), (gN 4)]) (mFor (iSeq (mVar 1)) (gTup [(gN 5), (gN 6)]) (m_cin CA)) [some x, some y, some (.box bx.length), none, none, none, none, none] (bx ++ [.lst []]) = .nx [some x, some y, some (.box bx.length), p3, p4, p5, p6, p7] (bx ++ [.lst (tot.map sD)]) := by
    unfold mFor
    show liftE (match x.it with | some ds => .ok ds (bx ++ [.lst []]) | none => .stk) _ _ = _
    rw [hx]
    exact e
  rw [ev_seq a2]
  refine ev_ret ?_
  have tl : tot.length ≤ a.length * b.length := by
    rw [← ht]
    clear ht e a1 a2 hl hx hy
    induction a with
    | nil => simp
    | cons s a ih =>
      rw [List.flatMap_cons, List.length_append, List.length_cons, Nat.succ_mul]
      have : ((b.map (cut2 s)).filter fun e => !emp e.1 e.2).length ≤ b.length := Nat.le_trans (List.length_filter_le ..) (by simp)
      omega
  have ec : commonL a b = joinL tot := by unfold commonL; rw [ht]
  rw [ec]
  rw [ev_F (mf := r_joined CA) (ev_cons (m := mVar 2) (r := .val (.box bx.length)) (b := bx ++ [.lst (tot.map sD)]) rfl ev_nil)]
  exact c_joinedB CA (st := tot) (by omega) (hb.snoc (cls_s _ _))
/-! ### outside -/
def m_ob : MS := mSeq (mIfS (mTest (mUn notN (mVar 3))) (mExpr (mBm appD (mVar 1) (aCons (mTup (aCons (mVar 2) (aCons (mBin subI (mVar 3) (mC (.int 1))) aNil))) aNil))) mSkip)
   (mSeq (mIfS (mTest (mUn isN (mVar 4))) (mRet (mCB (un1 tupD) (aCons (mVar 1) aNil))) mSkip)
   (mAsg (mBin addI (mVar 4) (mC (.int 1))) (gN 2)))
theorem m_outside_eq (CA : Ly) : m_outside CA = mSeq (mBox (mLst aNil) 1) (mSeq (mAsg (mC .non) (gN 2)) (mSeq (mFor (iSeq (mVar 0)) (gTup [(gN 3), (gN 4)]) m_ob) (mRet (mCB (un1 tupD) (aCons (mBin addL (mVar 1) (mLst (aCons (mTup (aCons (mVar 2) (aCons (mC .non) aNil))) aNil))) aNil))))) := rfl
def hd1 (low : Option Int) : Option Int → List Stretch
  | some f => [(low, some (f - 1))]
  | none => []
theorem outL_none (low f : Option Int) (ps : List Stretch) : outL low ((f, none) :: ps) = hd1 low f := by cases f <;> simp [outL, hd1]
theorem outL_some (low f : Option Int) (l : Int) (ps : List Stretch) : outL low ((f, some l) :: ps) = hd1 low f ++ outL (some (l + 1)) ps := by cases f <;> simp [outL, hd1]
theorem ob_first {low : Option Int} {acc : List Stretch} {f l : Option Int} (hl : acc.length < sizeLine) :
    mIfS (mTest (mUn notN (mVar 3))) (mExpr (mBm appD (mVar 1) (aCons (mTup (aCons (mVar 2) (aCons (mBin subI (mVar 3) (mC (.int 1))) aNil))) aNil))) mSkip [some x, some (.box B.length), some (oD low), some (oD f), some (oD l)] (B ++ [.lst (acc.map sD)]) =
    .nx [some x, some (.box B.length), some (oD low), some (oD f), some (oD l)] (B ++ [.lst ((acc ++ hd1 low f).map sD)]) := by
  cases f with
  | none =>
    rw [ev_ifF (b := B ++ [.lst (acc.map sD)]) rfl]
    simp [mSkip, hd1]
  | some f =>
    rw [ev_ifT (b := B ++ [.lst (acc.map sD)]) rfl, ev_app (n := B.length) (xs := acc.map sD) (d := sD (low, some (f - 1))) (b := B ++ [.lst (acc.map sD)]) rfl (get_end ..) rfl (get_end ..) (by simpa using hl), set_end]
    simp [hd1]
theorem tup_box {acc : List Stretch} : tupD (.box B.length) (B ++ [.lst (acc.map sD)]) = .ok (.val (.tup (acc.map sD))) (B ++ [.lst (acc.map sD)]) := by
  show (match (match (B ++ [D.lst (acc.map sD)])[B.length]? with | some (.lst ds) => some ds | _ => none) with | some ds => OK (.tup ds) (B ++ [D.lst (acc.map sD)]) | none => .stk) = _
  rw [get_end]
theorem ob_loop : ∀ (ps acc : List Stretch) (low : Option Int) (o3 o4 : Option D), acc.length + ps.length < sizeLine →
    (∃ low' acc' p3 p4, loop (gTup [(gN 3), (gN 4)]) m_ob (ps.map sD) [some x, some (.box B.length), some (oD low), o3, o4] (B ++ [.lst (acc.map sD)]) = .nx [some x, some (.box B.length), some (oD low'), p3, p4] (B ++ [.lst (acc'.map sD)]) ∧ acc' ++ [(low', none)] = acc ++ outL low ps ∧ acc'.length ≤ acc.length + ps.length) ∨
    (∃ acc', loop (gTup [(gN 3), (gN 4)]) m_ob (ps.map sD) [some x, some (.box B.length), some (oD low), o3, o4] (B ++ [.lst (acc.map sD)]) = .rt (.val (.tup (acc'.map sD))) (B ++ [.lst (acc'.map sD)]) ∧ acc' = acc ++ outL low ps)
  | [], acc, low, o3, o4, _ => .inl ⟨low, acc, o3, o4, rfl, rfl, by simp⟩
  | (f, l) :: ps, acc, low, o3, o4, hl => by
    rw [List.length_cons] at hl
    have e1 := ob_first (x := x) (B := B) (low := low) (acc := acc) (f := f) (l := l) (by omega)
    have zl : (hd1 low f).length ≤ 1 := by cases f <;> simp [hd1]
    cases l with
    | none =>
      refine .inr ⟨acc ++ hd1 low f, ?_, by rw [outL_none]⟩
      rw [List.map_cons]
      refine loop_rt (ρ1 := [some x, some (.box B.length), some (oD low), some (oD f), some (oD none)]) rfl ?_
      unfold m_ob
      rw [ev_seq e1]
      refine ev_seqR ?_
      rw [ev_ifT (b := B ++ [.lst ((acc ++ hd1 low f).map sD)]) rfl]
      exact ev_ret ((ev_CB (ev_cons (r := .val (.box B.length)) rfl ev_nil)).trans tup_box)
    | some l =>
      have e3 : m_ob [some x, some (.box B.length), some (oD low), some (oD f), some (oD (some l))] (B ++ [.lst (acc.map sD)]) = .nx [some x, some (.box B.length), some (oD (some (l + 1))), some (oD f), some (oD (some l))] (B ++ [.lst ((acc ++ hd1 low f).map sD)]) := by
        unfold m_ob
        rw [ev_seq e1]
        rfl
      have e4 := loop_nx (g := gTup [(gN 3), (gN 4)]) (d := sD (f, some l)) (ds := ps.map sD) (ρ := [some x, some (.box B.length), some (oD low), o3, o4]) rfl e3
      rw [List.map_cons, e4, outL_some]
      rcases ob_loop ps (acc ++ hd1 low f) (some (l + 1)) (some (oD f)) (some (oD (some l))) (by rw [List.length_append]; omega) with ⟨low', acc', p3, p4, h1, h2, h3⟩ | ⟨acc', h1, h2⟩
      · exact .inl ⟨low', acc', p3, p4, h1, by rw [h2, List.append_assoc], by rw [List.length_append] at h3; simp only [List.length_cons]; omega⟩
      · exact .inr ⟨acc', h1, by rw [h2, List.append_assoc]⟩
theorem c_outside (CA : Ly) {bx : List D} {a : List Stretch} (hx : x.it = some (a.map sD)) (hl : a.length < sizeLine) (hb : Cb bx) : r_outside CA [x] bx = .ok (.val (.tup ((outL none a).map sD))) bx := by
  have a1 : mBox (mLst aNil) 1 [some x, none, none, none, none] bx = .nx [some x, some (.box bx.length), none, none, none] (bx ++ [.lst []]) := ev_box (m := mLst aNil) (i := 1) (d := .lst []) (b := bx) rfl
  have a2 : ∀ o : OutS, loop (gTup [(gN 3), (gN 4)]) m_ob (a.map sD) [some x, some (.box bx.length), some .non, none, none] (bx ++ [.lst []]) = o → mFor (iSeq (mVar 0)) (gTup [(gN 3), (gN 4)]) m_ob [some x, some (.box bx.length), some .non, none, none] (bx ++ [.lst []]) = o := fun o h => by
    unfold mFor
    show liftE (match x.it with | some ds => .ok ds (bx ++ [.lst []]) | none => .stk) _ _ = _
    rw [hx]
    exact h
  have a3 : mAsg (mC .non) (gN 2) [some x, some (.box bx.length), none, none, none] (bx ++ [.lst []]) = .nx [some x, some (.box bx.length), some .non, none, none] (bx ++ [.lst []]) := rfl
  rcases ob_loop (x := x) (B := bx) a [] none none none (by simpa using hl) with ⟨low', acc', p3, p4, h1, h2, h3⟩ | ⟨acc', h1, h2⟩
  · refine run_rtC (ex := [.lst (acc'.map sD)]) ?_ hb (cls_s _ _) (fun j z => by cases z)
    rw [m_outside_eq, show ([x].map some ++ List.replicate (5 - [x].length) none : Sl) = [some x, none, none, none, none] from rfl, ev_seq a1, ev_seq a3, ev_seq (a2 _ h1)]
    refine ev_ret ?_
    rw [List.nil_append] at h2
    rw [← h2]
    have a5 : mBin addL (mVar 1) (mLst (aCons (mTup (aCons (mVar 2) (aCons (mC .non) aNil))) aNil)) [some x, some (.box bx.length), some (oD low'), p3, p4] (bx ++ [.lst (acc'.map sD)]) = .ok (.new (.lst ((acc' ++ [(low', none)]).map sD))) (bx ++ [.lst (acc'.map sD)]) := by
      have a6 : mLst (aCons (mTup (aCons (mVar 2) (aCons (mC .non) aNil))) aNil) [some x, some (.box bx.length), some (oD low'), p3, p4] (bx ++ [.lst (acc'.map sD)]) = .ok (.new (.lst [sD (low', none)])) (bx ++ [.lst (acc'.map sD)]) := rfl
      rw [ev_bin (r := .val (.box bx.length)) (b := bx ++ [.lst (acc'.map sD)]) rfl a6]
      show (match (match (bx ++ [D.lst (acc'.map sD)])[bx.length]? with | some (.lst ds) => some ds | _ => none), some [sD (low', none)] with
        | some xs, some ys => if xs.length + ys.length ≤ sizeLine then Out.ok (R.new (.lst (xs ++ ys))) (bx ++ [D.lst (acc'.map sD)]) else .stk
        | _, _ => .stk) = _
      rw [get_end]
      simp only [List.length_map, List.length_singleton, List.map_append, List.map_cons, List.map_nil]
      rw [if_pos (by simp at h3; omega)]
    exact (ev_CB (ev_cons a5 ev_nil)).trans rfl
  · refine run_rtC (ex := [.lst (acc'.map sD)]) ?_ hb (cls_s _ _) (fun j z => by cases z)
    rw [m_outside_eq, show ([x].map some ++ List.replicate (5 - [x].length) none : Sl) = [some x, none, none, none, none] from rfl, ev_seq a1, ev_seq a3]
    rw [List.nil_append] at h2
    rw [← h2]
    exact ev_seqR (a2 _ h1)
end
end Q0

set_option Elab.async false
set_option linter.all false
set_option maxRecDepth 100000
set_option maxHeartbeats 4000000
/-! K10: the class of sets. -/
namespace DL
open PySem
theorem ev_FL {i : Nat} {u : Addr} {mf : MF} {a : MA} {ρ : Sl} {bx : List D} (h : ρ[i]? = some (some (.adr u))) : mFL i u mf a ρ bx = mF mf a ρ bx := by
  unfold mFL
  rw [h]
  simp only [if_true]
end DL
namespace Q0
open PySem DL
abbrev rD (st : List Stretch) : D := .ins 0 ["parts"] [.tup (st.map sD)]
theorem cl_r (b : Nat) (st : List Stretch) : (rD st).cl b = true := by
  show (D.cls b (st.map sD) && true) = true
  rw [cls_s]; rfl
structure St (n : Nat) (a : List Stretch) : Prop where
  c : Canon a
  l : a.length ≤ n
theorem St.mono {n m : Nat} {a : List Stretch} (h : St n a) (hm : n ≤ m) : St m a := ⟨h.c, Nat.le_trans h.l hm⟩
theorem jlen : ∀ (zs acc : List Stretch), (zs.foldl jstep acc).length ≤ acc.length + zs.length
  | [], acc => by simp
  | s :: zs, acc => by
    have h1 := jlen zs (jstep acc s)
    have h2 := jstep_len acc s
    rw [List.foldl_cons, List.length_cons]
    omega
theorem joinL_len (st : List Stretch) : (joinL st).length ≤ st.length := by
  have h := jlen (sorted st) []
  have : (sorted st).length = st.length := by unfold sorted; simp
  unfold joinL
  simp only [List.length_nil] at h
  omega
section
variable {CA : Ly} {bx : List D} {n m : Nat} {a b st : List Stretch}
theorem c_init (CA : Ly) {x : D} (hx : x = .lst (st.map sD) ∨ x = .tup (st.map sD)) (hl : st.length ≤ sizeLine) (hb : Cb bx) : mkD 0 (r_Ranges___init__ CA) [x] bx = .ok (.new (rD (joinL st))) bx := by
  have hb1 : Cb (bx ++ [.ins 0 [] []]) := hb.snoc rfl
  have e1 := c_joined CA hx hl hb1
  have e2 : r_Ranges___init__ CA [.box bx.length, x] (bx ++ [.ins 0 [] []]) = .ok (.val .non) (bx ++ [rD (joinL st)]) := by
    refine (ar_ok rfl).trans (body_nx (ρ := [some (.box bx.length), some x]) ?_ (by simp))
    show m_Ranges___init__ CA [some (.box bx.length), some x] (bx ++ [.ins 0 [] []]) = _
    unfold m_Ranges___init__ mSetF
    rw [ev_F (ev_cons (r := .val x) (b := bx ++ [.ins 0 [] []]) rfl ev_nil)]
    simp only [R.d]
    rw [e1]
    have e3 : setF "parts" [0] (.box bx.length) (.tup ((joinL st).map sD)) (bx ++ [.ins 0 [] []]) = some (bx ++ [rD (joinL st)]) := by
      show (match (bx ++ [D.ins 0 [] []])[bx.length]? with
        | some (.ins c ns ds) => if c ∈ [0] ∧ ns.length < 1000 then some ((bx ++ [D.ins 0 [] []]).set bx.length (.ins c (putFD "parts" (.tup ((joinL st).map sD)) ns ds).1 (putFD "parts" (.tup ((joinL st).map sD)) ns ds).2)) else none
        | _ => none) = _
      rw [get_end]
      simp only
      rw [if_pos (by simp), set_end]
      rfl
    show (match setF "parts" [0] (.box bx.length) (.tup ((joinL st).map sD)) (bx ++ [.ins 0 [] []]) with | some b2 => OutS.nx _ b2 | none => .stk) = _
    rw [e3]
  have t : (bx ++ [rD (joinL st)]).take bx.length = bx := by simp
  unfold mkD
  rw [e2]
  show (if (bx ++ [rD (joinL st)]).length = bx.length + 1 ∧ ((bx ++ [rD (joinL st)]).take bx.length).all (D.cl bx.length) = true then (match (bx ++ [rD (joinL st)])[bx.length]? with | some d => if d.cl bx.length = true then Out.ok (R.new d) ((bx ++ [rD (joinL st)]).take bx.length) else .stk | none => .stk) else .stk) = _
  rw [t, if_pos ⟨by simp, hb⟩, get_end]
  simp only
  rw [if_pos (cl_r ..)]
theorem fld_r (a : List Stretch) (bx : List D) : fldD "parts" [0] (rD a) bx = .ok (.val (.tup (a.map sD))) bx := by
  simp [fldD, D.obj, getF]
/-- a set made of stretches -/
theorem made_of {x : D} (hx : x = .lst (st.map sD) ∨ x = .tup (st.map sD)) (hl : st.length ≤ n) (hn : n ≤ 1000000) (hv : ∀ s ∈ st, okS s) (hb : Cb bx) : ∃ c, mkD 0 (r_Ranges___init__ CA) [x] bx = .ok (.new (rD c)) bx ∧ St n c ∧ ∀ k, mem c k ↔ mem st k :=
  ⟨_, c_init CA hx (by unfold sizeLine; omega) hb, ⟨(join_ok hv).1, Nat.le_trans (joinL_len st) hl⟩, (join_ok hv).2⟩
theorem o_of (CA : Ly) (ns : List Int) (hl : ns.length ≤ n) (hn : n ≤ 1000000) (hb : Cb bx) : ∃ c, r_Ranges_of CA (.adr (CA 0) :: ns.map .int) bx = .ok (.new (rD c)) bx ∧ St n c ∧ ∀ k, mem c k ↔ k ∈ ns := by
  obtain ⟨c, e, h1, h2⟩ := made_of (CA := CA) (bx := bx) (st := ns.map fun i => (some i, some i)) (n := n) (.inl rfl) (by simpa using hl) hn (by simp [okS]) hb
  refine ⟨c, ?_, h1, fun k => (h2 k).trans ?_⟩
  · show (if 1 ≤ (D.adr (CA 0) :: ns.map D.int).length ∧ (D.adr (CA 0) :: ns.map D.int).length - 1 ≤ sizeLine then g_Ranges_of CA ([.adr (CA 0)] ++ [.tup (ns.map .int)]) bx else .stk) = _
    rw [if_pos ⟨by simp, by simp; unfold sizeLine; omega⟩]
    refine body_rt (b := bx) ?_ rfl
    show m_Ranges_of CA [some (.adr (CA 0)), some (.tup (ns.map .int)), none] bx = _
    have e1 := comp_map (g := gN 2) (ρ := [some (.adr (CA 0)), some (.tup (ns.map .int)), none]) (bx := bx) (m := mTup (aCons (mVar 2) (aCons (mVar 2) aNil))) (f := D.int) (g' := fun i => sD (some i, some i)) (fun i => ⟨[some (.adr (CA 0)), some (.tup (ns.map .int)), some (.int i)], rfl, rfl⟩) ns [] (by simp; unfold sizeLine; omega)
    have a1 : mComp (iSeq (mVar 1)) (([("number", 2)] : List (PySem.Str × Nat)).map (·.2)) (gN 2) mYes (mTup (aCons (mVar 2) (aCons (mVar 2) aNil))) [some (.adr (CA 0)), some (.tup (ns.map .int)), none] bx = .ok (.new (.lst ((ns.map fun i => ((some i, some i) : Stretch)).map sD))) bx := by
      unfold mComp
      show (compL _ _ _ (ns.map D.int) [some (.adr (CA 0)), some (.tup (ns.map .int)), none] bx []).bind _ = _
      rw [e1]
      simp [List.map_map, Function.comp_def]
    refine ev_ret ?_
    rw [ev_FL rfl, ev_F (ev_cons a1 ev_nil)]
    exact e
  · constructor
    · rintro ⟨s, hs, hi⟩
      obtain ⟨i, hm, rfl⟩ := List.mem_map.mp hs
      have q1 := hi.1 i rfl
      have q2 := hi.2 i rfl
      rw [show k = i by omega]; exact hm
    · intro h
      exact ⟨(some k, some k), List.mem_map.mpr ⟨k, h, rfl⟩, fun x hx => by cases hx; omega, fun x hx => by cases hx; omega⟩
theorem o_between (CA : Ly) (l h : Option Int) (hb : Cb bx) : ∃ c, r_Ranges_between CA [.adr (CA 0), oD l, oD h] bx = .ok (.new (rD c)) bx ∧ St 1 c ∧ ∀ k, mem c k ↔ inS (l, h) k := by
  have tst : mTest (mF (r_is_empty CA) (aCons (mVar 1) (aCons (mVar 2) aNil))) [some (.adr (CA 0)), some (oD l), some (oD h)] bx = .ok (emp l h) bx := ev_test ((ev_F (ev_cons (r := .val (oD l)) rfl (ev_cons (r := .val (oD h)) rfl ev_nil))).trans (c_is_empty CA _ _ _))
  have arg : ∀ d, mIf (mTest (mF (r_is_empty CA) (aCons (mVar 1) (aCons (mVar 2) aNil)))) (mLst aNil) (mLst (aCons (mTup (aCons (mVar 1) (aCons (mVar 2) aNil))) aNil)) [some (.adr (CA 0)), some (oD l), some (oD h)] bx = .ok (.new d) bx → ∀ o, mkD 0 (r_Ranges___init__ CA) [d] bx = o → ∀ r, o = .ok r bx → r_Ranges_between CA [.adr (CA 0), oD l, oD h] bx = .ok r bx := fun d e o e2 r e3 => by
    refine (ar_ok rfl).trans (body_rt (b := bx) ?_ rfl)
    show m_Ranges_between CA [some (.adr (CA 0)), some (oD l), some (oD h)] bx = _
    refine ev_ret ?_
    rw [ev_FL rfl, ev_F (ev_cons e ev_nil)]
    exact e2.trans e3
  cases q : emp l h with
  | true =>
    obtain ⟨c, e, h1, h2⟩ := made_of (CA := CA) (bx := bx) (st := []) (n := 1) (x := .lst []) (.inl rfl) (by simp) (by omega) (by simp) hb
    refine ⟨c, arg (.lst []) ?_ _ e _ rfl, h1, fun k => (h2 k).trans ⟨fun h => (mem_nil k h).elim, fun z => ?_⟩⟩
    · unfold mIf
      rw [tst, q]
      rfl
    · cases l <;> cases h <;> simp_all [emp, inS]
      omega
  | false =>
    obtain ⟨c, e, h1, h2⟩ := made_of (CA := CA) (bx := bx) (st := [(l, h)]) (n := 1) (x := .lst [sD (l, h)]) (.inl rfl) (by simp) (by omega) (fun s hs => by rw [List.mem_singleton.mp hs]; exact (emp_ok (l, h)).mp q) hb
    refine ⟨c, arg (.lst [sD (l, h)]) ?_ _ e _ rfl, h1, fun k => (h2 k).trans (mem_one _ _)⟩
    unfold mIf
    rw [tst, q]
    rfl
theorem o_full (CA : Ly) (hb : Cb bx) : r_Ranges_full CA [.adr (CA 0)] bx = .ok (.new (rD [(none, none)])) bx := by
  refine (ar_ok rfl).trans (body_rt (b := bx) ?_ rfl)
  show m_Ranges_full CA [some (.adr (CA 0))] bx = _
  refine ev_ret ?_
  rw [ev_FL rfl, ev_F (ev_cons (r := .new (.lst [sD (none, none)])) (b := bx) rfl ev_nil)]
  have ej : joinL [(none, none)] = [(none, none)] := by simp [joinL, sorted, jstep]
  have e := c_init CA (st := [(none, none)]) (bx := bx) (x := .lst [sD (none, none)]) (.inl rfl) (by decide) hb
  rw [ej] at e
  exact e
theorem o_empty (CA : Ly) (hb : Cb bx) : r_Ranges_empty CA [.adr (CA 0)] bx = .ok (.new (rD [])) bx := by
  refine (ar_ok rfl).trans (body_rt (b := bx) ?_ rfl)
  show m_Ranges_empty CA [some (.adr (CA 0))] bx = _
  refine ev_ret ?_
  rw [ev_FL rfl, ev_F (ev_cons (r := .new (.lst [])) (b := bx) rfl ev_nil)]
  have ej : joinL [] = [] := by simp [joinL, sorted]
  have e := c_init CA (st := []) (bx := bx) (x := .lst []) (.inl rfl) (by decide) hb
  rw [ej] at e
  exact e
/-! ### the operators -/
theorem fld_v {i : Nat} {ρ : Sl} (h : ρ[i]? = some (some (rD a))) : mUn (fldD "parts" [0]) (mVar i) ρ bx = .ok (.val (.tup (a.map sD))) bx := by
  have e : mVar i ρ bx = .ok (.val (rD a)) bx := by unfold mVar; rw [h]
  rw [ev_un e]
  exact fld_r a bx
theorem o_or (CA : Ly) (hb : Cb bx) (ha : St n a) (hb' : St m b) (h : n + m ≤ 1000000) : ∃ c, noX (binC 0 (r_Ranges___or__ CA) (rD a) (rD b) bx) = .ok (.new (rD c)) bx ∧ St (n + m) c ∧ ∀ k, mem c k ↔ mem a k ∨ mem b k := by
  obtain ⟨c, e, h1, h2⟩ := made_of (CA := CA) (bx := bx) (st := a ++ b) (n := n + m) (x := .tup (a.map sD ++ b.map sD)) (.inr (by rw [List.map_append])) (by have := ha.l; have := hb'.l; rw [List.length_append]; omega) h (fun s hs => (List.mem_append.mp hs).elim (ha.c.ok s) (hb'.c.ok s)) hb
  refine ⟨c, ?_, h1, fun k => (h2 k).trans (mem_append _ _ _)⟩
  have e2 : r_Ranges___or__ CA [rD a, rD b] bx = .ok (.new (rD c)) bx := by
    refine (ar_ok rfl).trans (body_rt (b := bx) ?_ rfl)
    show m_Ranges___or__ CA [some (rD a), some (rD b)] bx = _
    refine ev_ret ?_
    have e3 : mBin addT (mUn (fldD "parts" [0]) (mVar 0)) (mUn (fldD "parts" [0]) (mVar 1)) [some (rD a), some (rD b)] bx = .ok (.val (.tup (a.map sD ++ b.map sD))) bx := by
      rw [ev_bin (fld_v (a := a) rfl) (fld_v (a := b) rfl)]
      show (if (a.map sD).length + (b.map sD).length ≤ sizeLine then OK (.tup (a.map sD ++ b.map sD)) bx else .stk) = _
      rw [if_pos (by have := ha.l; have := hb'.l; simp; unfold sizeLine; omega)]
    rw [ev_F (ev_cons e3 ev_nil)]
    exact e
  show noX (if 0 = 0 ∧ 0 = 0 then r_Ranges___or__ CA [rD a, rD b] bx else .stk) = _
  rw [if_pos ⟨rfl, rfl⟩, e2]
  rfl
theorem commonL_len (a b : List Stretch) : (commonL a b).length ≤ a.length * b.length := by
  refine Nat.le_trans (joinL_len _) ?_
  induction a with
  | nil => simp
  | cons s a ih =>
    rw [List.flatMap_cons, List.length_append, List.length_cons, Nat.succ_mul]
    have : ((b.map (cut2 s)).filter fun e => !emp e.1 e.2).length ≤ b.length := Nat.le_trans (List.length_filter_le ..) (by simp)
    omega
theorem outL_len : ∀ (a : List Stretch) (low : Option Int), (outL low a).length ≤ a.length + 1
  | [], low => by simp [outL]
  | (f, l) :: a, low => by
    have h := fun x => outL_len a (some x)
    unfold outL
    rw [List.length_append, List.length_cons]
    cases f <;> cases l <;> simp
    · exact Nat.le_succ_of_le (h _)
    · have := h (‹Int› + 1)
      omega
theorem of_parts {x : D} (hx : x = .tup (st.map sD)) (hl : st.length ≤ n) (hc : Canon st) (hn : n ≤ 1000000) (hb : Cb bx) : ∃ c, mkD 0 (r_Ranges___init__ CA) [x] bx = .ok (.new (rD c)) bx ∧ St n c ∧ ∀ k, mem c k ↔ mem st k := made_of (.inr hx) hl hn hc.ok hb
theorem mul_le {n m : Nat} {x y : Nat} (h1 : x ≤ n) (h2 : y ≤ m) : x * y ≤ n * m := Nat.mul_le_mul h1 h2
theorem o_and (CA : Ly) (hb : Cb bx) (ha : St n a) (hb' : St m b) (h : n * m ≤ 1000000) : ∃ c, noX (binC 0 (r_Ranges___and__ CA) (rD a) (rD b) bx) = .ok (.new (rD c)) bx ∧ St (n * m) c ∧ ∀ k, mem c k ↔ mem a k ∧ mem b k := by
  have hl := mul_le ha.l hb'.l
  obtain ⟨q1, q2⟩ := common_ok (a := a) (b := b)
  obtain ⟨c, e, h1, h2⟩ := of_parts (CA := CA) (bx := bx) (st := commonL a b) (n := n * m) rfl (Nat.le_trans (commonL_len a b) hl) q1 h hb
  refine ⟨c, ?_, h1, fun k => (h2 k).trans (q2 k)⟩
  have e2 : r_Ranges___and__ CA [rD a, rD b] bx = .ok (.new (rD c)) bx := by
    refine (ar_ok rfl).trans (body_rt (b := bx) ?_ rfl)
    show m_Ranges___and__ CA [some (rD a), some (rD b)] bx = _
    refine ev_ret ?_
    have e3 : mF (r_common CA) (aCons (mUn (fldD "parts" [0]) (mVar 0)) (aCons (mUn (fldD "parts" [0]) (mVar 1)) aNil)) [some (rD a), some (rD b)] bx = .ok (.val (.tup ((commonL a b).map sD))) bx :=
      (ev_F (ev_cons (fld_v (a := a) rfl) (ev_cons (fld_v (a := b) rfl) ev_nil))).trans (c_common CA rfl rfl (by unfold sizeLine; omega) hb)
    rw [ev_F (ev_cons e3 ev_nil)]
    exact e
  show noX (if 0 = 0 ∧ 0 = 0 then r_Ranges___and__ CA [rD a, rD b] bx else .stk) = _
  rw [if_pos ⟨rfl, rfl⟩, e2]
  rfl
/-- what is missing in another one -/
theorem less_ok (hc : Canon b) (k : Int) : mem (commonL a (outL none b)) k ↔ mem a k ∧ ¬ mem b k := by
  refine ((common_ok (a := a) (b := outL none b)).2 k).trans ?_
  rw [outL_mem b none hc (fun l hl => by cases hl) k]
  exact ⟨fun h => ⟨h.1, h.2.2⟩, fun h => ⟨h.1, ⟨fun x hx => (nomatch hx), h.2⟩⟩⟩
theorem e_less (CA : Ly) (hb : Cb bx) (ha : St n a) (hb' : St m b) (h : n * (m + 1) ≤ 1000000) (hm : m ≤ 1000000) : mF (r_common CA) (aCons (mUn (fldD "parts" [0]) (mVar 0)) (aCons (mF (r_outside CA) (aCons (mUn (fldD "parts" [0]) (mVar 1)) aNil)) aNil)) [some (rD a), some (rD b)] bx = .ok (.val (.tup ((commonL a (outL none b)).map sD))) bx := by
  have hl : a.length * (outL none b).length ≤ n * (m + 1) := mul_le ha.l (Nat.le_trans (outL_len b none) (Nat.succ_le_succ hb'.l))
  have e4 : mF (r_outside CA) (aCons (mUn (fldD "parts" [0]) (mVar 1)) aNil) [some (rD a), some (rD b)] bx = .ok (.val (.tup ((outL none b).map sD))) bx :=
    (ev_F (ev_cons (fld_v (a := b) rfl) ev_nil)).trans (c_outside CA rfl (by have := hb'.l; unfold sizeLine; omega) hb)
  exact (ev_F (ev_cons (fld_v (a := a) rfl) (ev_cons e4 ev_nil))).trans (c_common CA rfl rfl (by unfold sizeLine; omega) hb)
theorem o_sub (CA : Ly) (hb : Cb bx) (ha : St n a) (hb' : St m b) (h : n * (m + 1) ≤ 1000000) (hm : m ≤ 1000000) : ∃ c, noX (binC 0 (r_Ranges___sub__ CA) (rD a) (rD b) bx) = .ok (.new (rD c)) bx ∧ St (n * (m + 1)) c ∧ ∀ k, mem c k ↔ mem a k ∧ ¬ mem b k := by
  have hl : a.length * (outL none b).length ≤ n * (m + 1) := mul_le ha.l (Nat.le_trans (outL_len b none) (Nat.succ_le_succ hb'.l))
  obtain ⟨c, e, h1, h2⟩ := of_parts (CA := CA) (bx := bx) (st := commonL a (outL none b)) (n := n * (m + 1)) rfl (Nat.le_trans (commonL_len a _) hl) common_ok.1 h hb
  refine ⟨c, ?_, h1, fun k => (h2 k).trans (less_ok hb'.c k)⟩
  have e2 : r_Ranges___sub__ CA [rD a, rD b] bx = .ok (.new (rD c)) bx := by
    refine (ar_ok rfl).trans (body_rt (b := bx) ?_ rfl)
    show m_Ranges___sub__ CA [some (rD a), some (rD b)] bx = _
    refine ev_ret ?_
    rw [ev_F (ev_cons (e_less CA hb ha hb' h hm) ev_nil)]
    exact e
  show noX (if 0 = 0 ∧ 0 = 0 then r_Ranges___sub__ CA [rD a, rD b] bx else .stk) = _
  rw [if_pos ⟨rfl, rfl⟩, e2]
  rfl
/-! ### equality -/
theorem eqv_s1 (s t : Stretch) : PyData.eqv (sP s) (sP t) = decide (s = t) := by
  obtain ⟨a, b⟩ := s
  obtain ⟨c, d⟩ := t
  apply Bool.eq_iff_iff.mpr
  cases a <;> cases b <;> cases c <;> cases d <;> simp [sP, oP, PyData.eqv, PyData.eqvAll]
theorem eqv_st : ∀ a b : List Stretch, PyData.eqvAll (a.map sP) (b.map sP) = decide (a = b)
  | [], [] => by simp [PyData.eqvAll]
  | [], _ :: _ => by simp [PyData.eqvAll]
  | _ :: _, [] => by simp [PyData.eqvAll]
  | s :: a, t :: b => by
    simp only [List.map_cons, PyData.eqvAll, eqv_s1, eqv_st a b]
    apply Bool.eq_iff_iff.mpr
    simp
theorem toPB_t (a : List Stretch) (bx : List D) : D.toPB bx (.tup (a.map sD)) = some (.tuple (a.map sP)) := by
  show (match D.toPs (a.map sD) with | some ps => some (PyData.tuple ps) | none => none) = _
  rw [toPs_s]
theorem eq_t (a b : List Stretch) (bx : List D) : eqD (.tup (a.map sD)) (.tup (b.map sD)) bx = OK (.bl (decide (a = b))) bx := by
  unfold eqD
  rw [toPB_t, toPB_t]
  show (if SeqAt.shaped (.tuple (a.map sP)) = true ∧ SeqAt.shaped (.tuple (b.map sP)) = true then OK (.bl (PyData.eqv (.tuple (a.map sP)) (.tuple (b.map sP)))) bx else .stk) = _
  rw [if_pos ⟨shaped_t a, shaped_t b⟩, ← eqv_st]
  simp only [PyData.eqv]
theorem ne_t (a b : List Stretch) (bx : List D) : neD (.tup (a.map sD)) (.tup (b.map sD)) bx = OK (.bl (!decide (a = b))) bx := by
  unfold neD
  rw [toPB_t, toPB_t]
  show (if SeqAt.shaped (.tuple (a.map sP)) = true ∧ SeqAt.shaped (.tuple (b.map sP)) = true then OK (.bl (!PyData.eqv (.tuple (a.map sP)) (.tuple (b.map sP)))) bx else .stk) = _
  rw [if_pos ⟨shaped_t a, shaped_t b⟩, ← eqv_st]
  simp only [PyData.eqv]
def hasB (st : List Stretch) (n : Int) : Bool := st.any fun s => inB s n
theorem inB_iff (s : Stretch) (n : Int) : inB s n = true ↔ inS s n := by
  obtain ⟨l, h⟩ := s
  cases l <;> cases h <;> simp [inB, loB, hiB, inS]
theorem hasB_iff (st : List Stretch) (n : Int) : hasB st n = true ↔ mem st n := by
  unfold hasB mem
  rw [List.any_eq_true]
  exact ⟨fun ⟨s, h, q⟩ => ⟨s, h, (inB_iff s n).mp q⟩, fun ⟨s, h, q⟩ => ⟨s, h, (inB_iff s n).mpr q⟩⟩
end
end Q0

set_option Elab.async false
set_option linter.all false
set_option maxRecDepth 100000
set_option maxHeartbeats 4000000
/-! K11: what the law asks of sets. -/
namespace DL
open PySem
/-- a loop that goes through -/
theorem loop_all (Sim : Sl → Prop) {g : D → Sl → Option Sl} {m : MS} {bx : List D} : ∀ (ds : List D) (_ : ∀ d ∈ ds, ∀ ρ, Sim ρ → ∃ ρ1 ρ2, g d ρ = some ρ1 ∧ m ρ1 bx = .nx ρ2 bx ∧ Sim ρ2) (ρ : Sl), Sim ρ → ∃ ρ', loop g m ds ρ bx = .nx ρ' bx ∧ Sim ρ'
  | [], _, ρ, h => ⟨ρ, rfl, h⟩
  | d :: ds, hb, ρ, h => by
    obtain ⟨ρ1, ρ2, e1, e2, h2⟩ := hb d (List.mem_cons_self ..) ρ h
    obtain ⟨ρ3, e3, h3⟩ := loop_all Sim ds (fun x hx => hb x (List.mem_cons_of_mem _ hx)) ρ2 h2
    exact ⟨ρ3, by rw [loop_nx e1 e2, e3], h3⟩
theorem ev_for {mi : MI} {g : D → Sl → Option Sl} {m : MS} {ρ : Sl} {bx b : List D} {ds : List D} (h : mi ρ bx = .ok ds b) : mFor mi g m ρ bx = loop g m ds ρ b := by
  unfold mFor; rw [h]; rfl
theorem ev_iseq {m : ME} {ρ : Sl} {bx b : List D} {ds : List D} {r : R} (h : m ρ bx = .ok r b) (hd : r.d.it = some ds) : iSeq m ρ bx = .ok ds b := by
  unfold iSeq; rw [h]; simp only [Out.bind_ok, hd]
theorem ne_bb (p q : Bool) (bx : List D) : neD (.bl p) (.bl q) bx = OK (.bl (p != q)) bx := by cases p <;> cases q <;> rfl
theorem eq_bb (p q : Bool) (bx : List D) : eqD (.bl p) (.bl q) bx = OK (.bl (p == q)) bx := by cases p <;> cases q <;> rfl
theorem ev_pow {a b : Int} {ρ : Sl} {bx : List D} (h : 0 ≤ b ∧ b ≤ 1000000 ∧ a.natAbs < 2 ^ 64) : mBin powI (mC (.int a)) (mC (.int b)) ρ bx = OK (.int (a ^ b.toNat)) bx := by
  show (if L2.CPow a b then OK (.int (a ^ b.toNat)) bx else .stk) = _
  rw [if_pos (show L2.CPow a b from h)]
theorem ev_addL {m m' : ME} {ρ : Sl} {bx b b' : List D} {r r' : R} {xs ys : List D} (h : m ρ bx = .ok r b) (h' : m' ρ b = .ok r' b') (hx : r.d = .lst xs) (hy : r'.d = .lst ys) (hl : xs.length + ys.length ≤ sizeLine) : mBin addL m m' ρ bx = .ok (.new (.lst (xs ++ ys))) b' := by
  rw [ev_bin h h', hx, hy]
  show (if xs.length + ys.length ≤ sizeLine then Out.ok (R.new (.lst (xs ++ ys))) b' else .stk) = _
  rw [if_pos hl]
end DL
namespace Q0
open PySem DL
/-! integers as data -/
theorem toPs_i : ∀ ns : List Int, D.toPs (ns.map .int) = some (ns.map .int)
  | [] => rfl
  | n :: ns => by
    have h := toPs_i ns
    show (match (D.int n).toP, D.toPs (ns.map .int) with | some p, some ps => some (p :: ps) | _, _ => none) = _
    rw [h]
    rfl
theorem lays_i : ∀ ns : List Int, PyData.canLayAll0 (ns.map .int) = true
  | [] => rfl
  | n :: ns => by
    show (true && PyData.canLayAll0 (ns.map .int)) = true
    rw [lays_i ns]; rfl
theorem deeps_i : ∀ ns : List Int, PyData.depthAll (ns.map .int) ≤ 1
  | [] => by simp [PyData.depthAll]
  | n :: ns => by
    have h := deeps_i ns
    simp only [List.map_cons, PyData.depthAll, PyData.depth]
    omega
theorem shaped_i (ns : List Int) : SeqAt.shaped (.list (ns.map .int)) = true := by
  have h := deeps_i ns
  have h2 : (PyData.list (ns.map .int)).depth ≤ 64 := by simp only [PyData.depth]; omega
  unfold SeqAt.shaped
  rw [show (PyData.list (ns.map .int)).canLay0 = PyData.canLayAll0 (ns.map .int) from rfl, lays_i, decide_eq_true h2]; rfl
theorem toPB_i (ns : List Int) (bx : List D) : D.toPB bx (.lst (ns.map .int)) = some (.list (ns.map .int)) := by
  show (match D.toPs (ns.map .int) with | some ps => some (PyData.list ps) | none => none) = _
  rw [toPs_i]
theorem eqn_i (ns : List Int) (bx : List D) : eqD (.lst (ns.map .int)) (.lst []) bx = OK (.bl ns.isEmpty) bx := by
  unfold eqD
  rw [toPB_i, show D.toPB bx (.lst []) = some (.list []) from rfl]
  show (if SeqAt.shaped (.list (ns.map .int)) = true ∧ SeqAt.shaped (.list []) = true then OK (.bl (PyData.eqv (.list (ns.map .int)) (.list []))) bx else .stk) = _
  rw [if_pos ⟨shaped_i ns, rfl⟩]
  cases ns <;> rfl
theorem nen_i (ns : List Int) (bx : List D) : neD (.lst (ns.map .int)) (.lst []) bx = OK (.bl (!ns.isEmpty)) bx := by
  unfold neD
  rw [toPB_i, show D.toPB bx (.lst []) = some (.list []) from rfl]
  show (if SeqAt.shaped (.list (ns.map .int)) = true ∧ SeqAt.shaped (.list []) = true then OK (.bl (!PyData.eqv (.list (ns.map .int)) (.list []))) bx else .stk) = _
  rw [if_pos ⟨shaped_i ns, rfl⟩]
  cases ns <;> rfl
theorem nen_s (st : List Stretch) (bx : List D) : neD (.lst (st.map sD)) (.lst []) bx = OK (.bl (!st.isEmpty)) bx := by
  have e : D.toPB bx (.lst (st.map sD)) = some (.list (st.map sP)) := by
    show (match D.toPs (st.map sD) with | some ps => some (PyData.list ps) | none => none) = _
    rw [toPs_s]
  unfold neD
  rw [e, show D.toPB bx (.lst []) = some (.list []) from rfl]
  show (if SeqAt.shaped (.list (st.map sP)) = true ∧ SeqAt.shaped (.list []) = true then OK (.bl (!PyData.eqv (.list (st.map sP)) (.list []))) bx else .stk) = _
  rw [if_pos ⟨shaped_l st, rfl⟩, eqv_nil]
end Q0

set_option Elab.async false
set_option linter.all false
set_option maxRecDepth 100000
set_option maxHeartbeats 4000000
/-! K12: the pen, draws, ends. -/
namespace DL
open PySem
theorem ev_no {t : MB} {m : MS} {ρ : Sl} {bx b : List D} (h : t ρ bx = .ok false b) : mIfS t m mSkip ρ bx = .nx ρ b := (ev_ifF h).trans rfl
section
variable {m m' : ME} {ρ : Sl} {bx b b' : List D} {i j : Int}
theorem ev_mulI (h : m ρ bx = .ok (.val (.int i)) b) (h' : m' ρ b = .ok (.val (.int j)) b') (c : L2.CMul i j) : mBin mulI m m' ρ bx = .ok (.val (.int (i * j))) b' := by
  rw [ev_bin h h']
  show (if L2.CMul i j then OK (.int (i * j)) b' else .stk) = _
  rw [if_pos c]
theorem ev_modI (h : m ρ bx = .ok (.val (.int i)) b) (h' : m' ρ b = .ok (.val (.int j)) b') (c : 0 < j) : mBin modI m m' ρ bx = .ok (.val (.int (i % j))) b' := by
  rw [ev_bin h h']
  show (if 0 < j then OK (.int (i % j)) b' else .stk) = _
  rw [if_pos c]
theorem ev_divW (h : m ρ bx = .ok (.val (.int i)) b) (h' : m' ρ b = .ok (.val (.int j)) b') (c : 0 < j) (c' : j < 1099511627776) : mBin divW m m' ρ bx = .ok (.val (.int (i / j))) b' := by
  rw [ev_bin h h']
  show (if L2.CDivW i j then OK (.int (i / j)) b' else .stk) = _
  have hz : j.natAbs ≠ 0 := by omega
  have hl : j.natAbs.log2 < 40 := (Nat.log2_lt hz).mpr (by omega)
  rw [if_pos (show L2.CDivW i j from ⟨c, by omega⟩)]
theorem ev_powI (h : m ρ bx = .ok (.val (.int i)) b) (h' : m' ρ b = .ok (.val (.int j)) b') (c : L2.CPow i j) : mBin powI m m' ρ bx = .ok (.val (.int (i ^ j.toNat))) b' := by
  rw [ev_bin h h']
  show (if L2.CPow i j then OK (.int (i ^ j.toNat)) b' else .stk) = _
  rw [if_pos c]
theorem ev_addI (h : m ρ bx = .ok (.val (.int i)) b) (h' : m' ρ b = .ok (.val (.int j)) b') : mBin addI m m' ρ bx = .ok (.val (.int (i + j))) b' := by
  rw [ev_bin h h']; rfl
theorem ev_subI (h : m ρ bx = .ok (.val (.int i)) b) (h' : m' ρ b = .ok (.val (.int j)) b') : mBin subI m m' ρ bx = .ok (.val (.int (i - j))) b' := by
  rw [ev_bin h h']; rfl
theorem ev_int (h : m ρ bx = .ok (.val (.int i)) b) : mCB (un1 intD) (aCons m aNil) ρ bx = .ok (.val (.int i)) b := by
  rw [ev_CB (ev_cons h ev_nil)]; rfl
theorem eq_ii (i j : Int) (bx : List D) : eqD (.int i) (.int j) bx = OK (.bl (i == j)) bx := rfl
theorem ev_eqI (h : m ρ bx = .ok (.val (.int i)) b) (h' : m' ρ b = .ok (.val (.int j)) b') : mTest (mBin eqD m m') ρ bx = .ok (i == j) b' := ev_test ((ev_bin h h').trans rfl)
end
end DL
namespace Q0
open PySem DL
theorem cls_i (b : Nat) : ∀ ns : List Int, D.cls b (ns.map .int) = true
  | [] => rfl
  | n :: ns => by
    show (true && D.cls b (ns.map .int)) = true
    rw [cls_i b ns]; rfl
structure Pn where
  cs : List Int
  at_ : Int
  left : Int
abbrev pD (p : Pn) : D := .lst [.lst (p.cs.map .int), .int p.at_, .int p.left]
theorem cl_p (b : Nat) (p : Pn) : (pD p).cl b = true := by
  show (D.cls b (p.cs.map .int) && true) = true
  rw [cls_i]; rfl
structure PO (p : Pn) (k : Int) : Prop where
  lo : 0 ≤ p.at_
  hi : p.at_ ≤ k
  cs : p.cs.length ≤ 63
theorem PO.mono {p : Pn} {k k' : Int} (h : PO p k) (hk : k ≤ k') : PO p k' := ⟨h.lo, by have := h.hi; omega, h.cs⟩
/-- the way a law draws -/
def m_dr (A C E F G : Int) : MS :=
  (mSeq (mIfS (mTest (mBin gtI (mBin ixD (mVar 0) (mC (.int 2))) (mC (.int 0)))) (mSeq (mAsg (mBin modI (mCB (un1 intD) (aCons (mBin ixD (mVar 0) (mC (.int 2))) aNil)) (mVar 1)) (gN 5))
   (mSeq (mSetIx (mBin divW (mBin ixD (mVar 0) (mC (.int 2))) (mVar 1)) (mVar 0) (mC (.int 2)))
   (mRet (mVar 5)))) mSkip)
  (mSeq (mAsg (mBin ixD (mVar 0) (mC (.int 1))) (gN 2))
  (mSeq (mSetIx (mBin addI (mVar 2) (mC (.int 1))) (mVar 0) (mC (.int 1)))
  (mSeq (mAsg (mBin addI (mBin mulI (mC (.int A)) (mVar 2)) (mC (.int C))) (gN 3))
  (mSeq (mIfS (mTest (mBin neD (mBin ixD (mVar 0) (mC (.int 0))) (mLst aNil))) (mAsg (mBin ixD (mBin ixD (mVar 0) (mC (.int 0))) (mBin modI (mCB (un1 intD) (aCons (mVar 2) aNil)) (mCB (un1 lenD) (aCons (mBin ixD (mVar 0) (mC (.int 0))) aNil)))) (gN 3)) mSkip)
  (mSeq (mIfS (mAnd (mTest (mBin ltI (mVar 2) (mCB (un1 lenD) (aCons (mBin ixD (mVar 0) (mC (.int 0))) aNil)))) (mTest (mBin geI (mCB (un1 absD) (aCons (mVar 3) aNil)) (mBin powI (mC (.int 10)) (mC (.int 18)))))) (mSeq (mAsg (mBin addI (mBin mulI (mC (.int 2)) (mCB (un1 absD) (aCons (mVar 3) aNil))) (mCB (un1 intD) (aCons (mBin ltI (mVar 3) (mC (.int 0))) aNil))) (gN 6))
   (mSeq (mSetIx (mBin divW (mVar 6) (mVar 1)) (mVar 0) (mC (.int 2)))
   (mRet (mBin modI (mCB (un1 intD) (aCons (mVar 6) aNil)) (mVar 1))))) mSkip)
  (mSeq (mAsg (mBin modI (mBin powI (mCB (un1 intD) (aCons (mBin addI (mBin addI (mBin modI (mCB (un1 intD) (aCons (mVar 3) aNil)) (mC (.int 2147483549))) (mBin mulI (mC (.int E)) (mVar 2))) (mC (.int F))) aNil)) (mC (.int 5))) (mC (.int 2147483579))) (gN 4))
  (mSeq (mAsg (mBin modI (mBin powI (mCB (un1 intD) (aCons (mBin addI (mBin addI (mBin mulI (mVar 4) (mBin addI (mBin mulI (mC (.int 2)) (mVar 2)) (mC (.int G)))) (mBin mulI (mBin mulI (mC (.int 70001)) (mVar 2)) (mVar 2))) (mC (.int 13))) aNil)) (mC (.int 3))) (mC (.int 2147483629))) (gN 4))
  (mRet (mBin modI (mCB (un1 intD) (aCons (mBin divW (mVar 4) (mC (.int 16))) aNil)) (mVar 1)))))))))))
theorem dr_a (CA : Ly) : r__law_draw CA = ar 2 (body 7 (m_dr 43117 10 53327 24 37)) := rfl
theorem dr_b (CA : Ly) : r__law_draw_b CA = ar 2 (body 7 (m_dr 44123 11 54323 25 39)) := rfl
def Drw (rd : MF) : Prop := ∀ (p : Pn) (k many : Int) (rest : List D), PO p k → k < 1000000 → 0 < many → many < 1099511627776 →
  ∃ r p', rd [.box 0, .int many] (pD p :: rest) = .ok (.val (.int r)) (pD p' :: rest) ∧ 0 ≤ r ∧ r < many ∧ PO p' (k + 1)
theorem atI_nn {α : Type} {xs : List α} {i : Int} (h0 : 0 ≤ i) (h1 : i < xs.length) : ∃ x, L2.atI xs i = some x ∧ x ∈ xs := by
  unfold L2.atI L2.ixN
  rw [if_pos h0, if_pos h1]
  have h2 : i.toNat < xs.length := by omega
  exact ⟨xs[i.toNat], by simp [h2], List.getElem_mem _⟩
theorem small_mul {i j : Int} (h : -(2 ^ 64) < i) (h' : i < 2 ^ 64) : L2.CMul i j := .inl ⟨h, h'⟩
theorem draw_ok {A C E F G : Int} (hA : 0 ≤ A ∧ A < 100000) (hE : 0 ≤ E ∧ E < 100000) (hF : 0 ≤ F ∧ F < 100) (hG : 0 ≤ G ∧ G < 100) : Drw (ar 2 (body 7 (m_dr A C E F G))) := by
  intro p k many rest hp hk hm hm2
  have hlo := hp.lo
  have hhi := hp.hi
  by_cases hl : 0 < p.left
  · -- digits are left
    refine ⟨p.left % many, { p with left := p.left / many }, ?_, Int.emod_nonneg _ (by omega), Int.emod_lt_of_pos _ hm, ⟨hlo, by show p.at_ ≤ k + 1; omega, hp.cs⟩⟩
    refine run_rt ?_
    show m_dr A C E F G [some (.box 0), some (.int many), none, none, none, none, none] (pD p :: rest) = _
    unfold m_dr
    refine ev_seqR ?_
    have t : mTest (mBin gtI (mBin ixD (mVar 0) (mC (.int 2))) (mC (.int 0))) [some (.box 0), some (.int many), none, none, none, none, none] (pD p :: rest) = .ok (decide (0 < p.left)) (pD p :: rest) := rfl
    rw [decide_eq_true hl] at t
    rw [ev_ifT t]
    have e1 : mBin modI (mCB (un1 intD) (aCons (mBin ixD (mVar 0) (mC (.int 2))) aNil)) (mVar 1) [some (.box 0), some (.int many), none, none, none, none, none] (pD p :: rest) = .ok (.val (.int (p.left % many))) (pD p :: rest) := ev_modI (i := p.left) (b := pD p :: rest) rfl rfl hm
    rw [ev_seq (ev_asg (i := 5) e1)]
    have e2 : mBin divW (mBin ixD (mVar 0) (mC (.int 2))) (mVar 1) [some (.box 0), some (.int many), none, none, none, some (.int (p.left % many)), none] (pD p :: rest) = .ok (.val (.int (p.left / many))) (pD p :: rest) := ev_divW (i := p.left) (b := pD p :: rest) rfl rfl hm hm2
    have e3 := ev_setIx (b1 := pD p :: rest) (b2 := pD p :: rest) (mo := mVar 0) (mi := mC (.int 2)) (o := .val (.box 0)) (i := .val (.int 2)) (b3 := pD { p with left := p.left / many } :: rest) e2 rfl rfl rfl
    exact (ev_seq e3).trans rfl
  · -- a cell
    have t : mTest (mBin gtI (mBin ixD (mVar 0) (mC (.int 2))) (mC (.int 0))) [some (.box 0), some (.int many), none, none, none, none, none] (pD p :: rest) = .ok (decide (0 < p.left)) (pD p :: rest) := rfl
    rw [decide_eq_false hl] at t
    let q : Pn := { p with at_ := p.at_ + 1 }
    have hq : PO q (k + 1) := ⟨by show 0 ≤ p.at_ + 1; omega, by show p.at_ + 1 ≤ k + 1; omega, hp.cs⟩
    have s1 : mAsg (mBin ixD (mVar 0) (mC (.int 1))) (gN 2) [some (.box 0), some (.int many), none, none, none, none, none] (pD p :: rest) = .nx [some (.box 0), some (.int many), some (.int p.at_), none, none, none, none] (pD p :: rest) := rfl
    have s2 : mSetIx (mBin addI (mVar 2) (mC (.int 1))) (mVar 0) (mC (.int 1)) [some (.box 0), some (.int many), some (.int p.at_), none, none, none, none] (pD p :: rest) = .nx [some (.box 0), some (.int many), some (.int p.at_), none, none, none, none] (pD q :: rest) := rfl
    have s3 : mAsg (mBin addI (mBin mulI (mC (.int A)) (mVar 2)) (mC (.int C))) (gN 3) [some (.box 0), some (.int many), some (.int p.at_), none, none, none, none] (pD q :: rest) = .nx [some (.box 0), some (.int many), some (.int p.at_), some (.int (A * p.at_ + C)), none, none, none] (pD q :: rest) :=
      ev_asg (i := 3) (ev_addI (b := pD q :: rest) (ev_mulI (i := A) (j := p.at_) (b := pD q :: rest) rfl rfl (small_mul (by omega) (by omega))) rfl)
    have s4 : ∃ c, mIfS (mTest (mBin neD (mBin ixD (mVar 0) (mC (.int 0))) (mLst aNil))) (mAsg (mBin ixD (mBin ixD (mVar 0) (mC (.int 0))) (mBin modI (mCB (un1 intD) (aCons (mVar 2) aNil)) (mCB (un1 lenD) (aCons (mBin ixD (mVar 0) (mC (.int 0))) aNil)))) (gN 3)) mSkip [some (.box 0), some (.int many), some (.int p.at_), some (.int (A * p.at_ + C)), none, none, none] (pD q :: rest) = .nx [some (.box 0), some (.int many), some (.int p.at_), some (.int c), none, none, none] (pD q :: rest) := by
      have tt : mTest (mBin neD (mBin ixD (mVar 0) (mC (.int 0))) (mLst aNil)) [some (.box 0), some (.int many), some (.int p.at_), some (.int (A * p.at_ + C)), none, none, none] (pD q :: rest) = .ok (!p.cs.isEmpty) (pD q :: rest) :=
        ev_test ((ev_bin (r := .val (.lst (p.cs.map .int))) (r' := .new (.lst [])) (b := pD q :: rest) (b' := pD q :: rest) rfl rfl).trans (nen_i _ _))
      cases z : p.cs.isEmpty with
      | true =>
        rw [z] at tt
        exact ⟨A * p.at_ + C, by rw [ev_ifF tt]; rfl⟩
      | false =>
        rw [z] at tt
        have hpos : 0 < p.cs.length := by
          cases hc : p.cs with
          | nil => rw [hc] at z; cases z
          | cons _ _ => simp
        obtain ⟨x, h1, h2⟩ := atI_nn (xs := p.cs.map D.int) (i := p.at_ % (p.cs.length : Int)) (Int.emod_nonneg _ (by omega)) (by rw [List.length_map]; exact Int.emod_lt_of_pos _ (by omega))
        obtain ⟨c, _, rfl⟩ := List.mem_map.mp h2
        refine ⟨c, ?_⟩
        rw [ev_ifT tt]
        have el : mCB (un1 lenD) (aCons (mBin ixD (mVar 0) (mC (.int 0))) aNil) [some (.box 0), some (.int many), some (.int p.at_), some (.int (A * p.at_ + C)), none, none, none] (pD q :: rest) = .ok (.val (.int p.cs.length)) (pD q :: rest) := by
          show OK (.int ((p.cs.map D.int).length : Nat)) (pD q :: rest) = _
          rw [List.length_map]
        have em := ev_modI (m := mCB (un1 intD) (aCons (mVar 2) aNil)) (i := p.at_) (b := pD q :: rest) rfl el (by omega)
        refine ev_asg (i := 3) (r := .val (.int c)) ?_
        rw [ev_bin (r := .val (.lst (p.cs.map .int))) (b := pD q :: rest) rfl em]
        show (match L2.atI (p.cs.map D.int) (p.at_ % (p.cs.length : Int)) with | some d => OK d (pD q :: rest) | none => .stk) = _
        rw [h1]
    obtain ⟨c, s4⟩ := s4
    have tt : mAnd (mTest (mBin ltI (mVar 2) (mCB (un1 lenD) (aCons (mBin ixD (mVar 0) (mC (.int 0))) aNil)))) (mTest (mBin geI (mCB (un1 absD) (aCons (mVar 3) aNil)) (mBin powI (mC (.int 10)) (mC (.int 18))))) [some (.box 0), some (.int many), some (.int p.at_), some (.int c), none, none, none] (pD q :: rest) = .ok (decide (p.at_ < ((p.cs.map D.int).length : Nat)) && decide ((10 : Int) ^ (18 : Int).toNat ≤ if c < 0 then -c else c)) (pD q :: rest) := by
      have t1 : mTest (mBin ltI (mVar 2) (mCB (un1 lenD) (aCons (mBin ixD (mVar 0) (mC (.int 0))) aNil))) [some (.box 0), some (.int many), some (.int p.at_), some (.int c), none, none, none] (pD q :: rest) = .ok (decide (p.at_ < ((p.cs.map D.int).length : Nat))) (pD q :: rest) := rfl
      have t2 : mTest (mBin geI (mCB (un1 absD) (aCons (mVar 3) aNil)) (mBin powI (mC (.int 10)) (mC (.int 18)))) [some (.box 0), some (.int many), some (.int p.at_), some (.int c), none, none, none] (pD q :: rest) = .ok (decide ((10 : Int) ^ (18 : Int).toNat ≤ if c < 0 then -c else c)) (pD q :: rest) :=
        ev_test ((ev_bin (r := .val (.int (if c < 0 then -c else c))) (b := pD q :: rest) rfl (ev_pow (by decide))).trans rfl)
      cases z : decide (p.at_ < ((p.cs.map D.int).length : Nat)) with
      | true => rw [z] at t1; rw [ev_andT t1, t2]; rfl
      | false => rw [z] at t1; rw [ev_andF t1]; rfl
    generalize hz : (decide (p.at_ < ((p.cs.map D.int).length : Nat)) && decide ((10 : Int) ^ (18 : Int).toNat ≤ if c < 0 then -c else c)) = big at tt
    cases big with
    | true =>
      let L : Int := 2 * (if c < 0 then -c else c) + (if decide (c < 0) = true then 1 else 0)
      refine ⟨L % many, { q with left := L / many }, ?_, Int.emod_nonneg _ (by omega), Int.emod_lt_of_pos _ hm, ⟨hq.lo, hq.hi, hq.cs⟩⟩
      refine run_rt ?_
      show m_dr A C E F G [some (.box 0), some (.int many), none, none, none, none, none] (pD p :: rest) = _
      unfold m_dr
      rw [ev_seq (ev_no t), ev_seq s1, ev_seq s2, ev_seq s3, ev_seq s4]
      refine ev_seqR ?_
      rw [ev_ifT tt]
      have e1 : mBin addI (mBin mulI (mC (.int 2)) (mCB (un1 absD) (aCons (mVar 3) aNil))) (mCB (un1 intD) (aCons (mBin ltI (mVar 3) (mC (.int 0))) aNil)) [some (.box 0), some (.int many), some (.int p.at_), some (.int c), none, none, none] (pD q :: rest) = .ok (.val (.int L)) (pD q :: rest) :=
        ev_addI (b := pD q :: rest) (ev_mulI (i := 2) (j := if c < 0 then -c else c) (b := pD q :: rest) rfl rfl (small_mul (by omega) (by omega))) rfl
      rw [ev_seq (ev_asg (i := 6) e1)]
      have e2 : mBin divW (mVar 6) (mVar 1) [some (.box 0), some (.int many), some (.int p.at_), some (.int c), none, none, some (.int L)] (pD q :: rest) = .ok (.val (.int (L / many))) (pD q :: rest) := ev_divW (i := L) (b := pD q :: rest) rfl rfl hm hm2
      have e3 := ev_setIx (b1 := pD q :: rest) (b2 := pD q :: rest) (mo := mVar 0) (mi := mC (.int 2)) (o := .val (.box 0)) (i := .val (.int 2)) (b3 := pD { q with left := L / many } :: rest) e2 rfl rfl rfl
      refine (ev_seq e3).trans ?_
      exact ev_ret (ev_modI (i := L) (b := pD { q with left := L / many } :: rest) rfl rfl hm)
    | false =>
      have m1 := Int.emod_nonneg c (show (2147483549 : Int) ≠ 0 by decide)
      have m2 := Int.emod_lt_of_pos c (show (0 : Int) < 2147483549 by decide)
      have n1 : 0 ≤ E * p.at_ := Int.mul_nonneg hE.1 hlo
      have n2 : E * p.at_ ≤ 100000 * 1000000 := Int.mul_le_mul (by omega) (by omega) hlo (by decide)
      let X : Int := c % 2147483549 + E * p.at_ + F
      have hX : 0 ≤ X ∧ X < 1000000000000 := by constructor <;> (show _; simp only [X]; omega)
      let Y : Int := X ^ (5 : Int).toNat % 2147483579
      have y1 : 0 ≤ Y := Int.emod_nonneg _ (by decide)
      have y2 : Y < 2147483579 := Int.emod_lt_of_pos _ (by decide)
      have n3 : 0 ≤ Y * (2 * p.at_ + G) := Int.mul_nonneg y1 (by omega)
      have n4 : Y * (2 * p.at_ + G) ≤ 2147483579 * 3000000 := Int.mul_le_mul (by omega) (by omega) (by omega) (by decide)
      have n5 : 0 ≤ 70001 * p.at_ * p.at_ := Int.mul_nonneg (by omega) hlo
      have n6 : 70001 * p.at_ * p.at_ ≤ (70001 * 1000000) * 1000000 := Int.mul_le_mul (by omega) (by omega) hlo (by decide)
      let Z : Int := Y * (2 * p.at_ + G) + 70001 * p.at_ * p.at_ + 13
      have hZ : 0 ≤ Z ∧ Z < 18446744073709551616 := by constructor <;> (show _; simp only [Z]; omega)
      let V : Int := Z ^ (3 : Int).toNat % 2147483629
      refine ⟨V / 16 % many, q, ?_, Int.emod_nonneg _ (by omega), Int.emod_lt_of_pos _ hm, hq⟩
      refine run_rt ?_
      show m_dr A C E F G [some (.box 0), some (.int many), none, none, none, none, none] (pD p :: rest) = _
      unfold m_dr
      rw [ev_seq (ev_no t), ev_seq s1, ev_seq s2, ev_seq s3, ev_seq s4, ev_seq (ev_no tt)]
      have e1 : mBin addI (mBin addI (mBin modI (mCB (un1 intD) (aCons (mVar 3) aNil)) (mC (.int 2147483549))) (mBin mulI (mC (.int E)) (mVar 2))) (mC (.int F)) [some (.box 0), some (.int many), some (.int p.at_), some (.int c), none, none, none] (pD q :: rest) = .ok (.val (.int X)) (pD q :: rest) :=
        ev_addI (b := pD q :: rest) (ev_addI (b := pD q :: rest) (ev_modI (i := c) (j := 2147483549) (b := pD q :: rest) rfl rfl (by decide)) (ev_mulI (i := E) (j := p.at_) (b := pD q :: rest) rfl rfl (small_mul (by omega) (by omega)))) rfl
      have e2 : mBin modI (mBin powI (mCB (un1 intD) (aCons (mBin addI (mBin addI (mBin modI (mCB (un1 intD) (aCons (mVar 3) aNil)) (mC (.int 2147483549))) (mBin mulI (mC (.int E)) (mVar 2))) (mC (.int F))) aNil)) (mC (.int 5))) (mC (.int 2147483579)) [some (.box 0), some (.int many), some (.int p.at_), some (.int c), none, none, none] (pD q :: rest) = .ok (.val (.int Y)) (pD q :: rest) :=
        ev_modI (b := pD q :: rest) (ev_powI (j := 5) (b := pD q :: rest) (ev_int e1) rfl ⟨by decide, by decide, by have := hX; omega⟩) rfl (by decide)
      rw [ev_seq (ev_asg (i := 4) e2)]
      have e3 : mBin addI (mBin addI (mBin mulI (mVar 4) (mBin addI (mBin mulI (mC (.int 2)) (mVar 2)) (mC (.int G)))) (mBin mulI (mBin mulI (mC (.int 70001)) (mVar 2)) (mVar 2))) (mC (.int 13)) [some (.box 0), some (.int many), some (.int p.at_), some (.int c), some (.int Y), none, none] (pD q :: rest) = .ok (.val (.int Z)) (pD q :: rest) :=
        ev_addI (b := pD q :: rest) (ev_addI (b := pD q :: rest) (ev_mulI (i := Y) (b := pD q :: rest) rfl (ev_addI (b := pD q :: rest) (ev_mulI (i := 2) (j := p.at_) (b := pD q :: rest) rfl rfl (small_mul (by omega) (by omega))) rfl) (small_mul (by omega) (by omega))) (ev_mulI (j := p.at_) (b := pD q :: rest) (ev_mulI (i := 70001) (j := p.at_) (b := pD q :: rest) rfl rfl (small_mul (by omega) (by omega))) rfl (small_mul (by omega) (by omega)))) rfl
      have e4 : mBin modI (mBin powI (mCB (un1 intD) (aCons (mBin addI (mBin addI (mBin mulI (mVar 4) (mBin addI (mBin mulI (mC (.int 2)) (mVar 2)) (mC (.int G)))) (mBin mulI (mBin mulI (mC (.int 70001)) (mVar 2)) (mVar 2))) (mC (.int 13))) aNil)) (mC (.int 3))) (mC (.int 2147483629)) [some (.box 0), some (.int many), some (.int p.at_), some (.int c), some (.int Y), none, none] (pD q :: rest) = .ok (.val (.int V)) (pD q :: rest) :=
        ev_modI (b := pD q :: rest) (ev_powI (j := 3) (b := pD q :: rest) (ev_int e3) rfl ⟨by decide, by decide, by have := hZ; omega⟩) rfl (by decide)
      refine (ev_seq (ev_asg (i := 4) e4)).trans ?_
      refine ev_ret (ev_modI (i := V / 16) (b := pD q :: rest) (ev_int (ev_divW (i := V) (j := 16) (b := pD q :: rest) rfl rfl (by decide) (by decide))) rfl hm)
/-- a draw in an expression -/
theorem ev_draw {rd : MF} (hd : Drw rd) {ρ : Sl} {p : Pn} {k many : Int} {rest : List D} {m : ME} (h0 : ρ[0]? = some (some (.box 0))) (hm : m ρ (pD p :: rest) = .ok (.val (.int many)) (pD p :: rest)) (hp : PO p k) (hk : k < 1000000) (h1 : 0 < many) (h2 : many < 1099511627776) :
    ∃ r p', mF rd (aCons (mVar 0) (aCons m aNil)) ρ (pD p :: rest) = .ok (.val (.int r)) (pD p' :: rest) ∧ 0 ≤ r ∧ r < many ∧ PO p' (k + 1) := by
  obtain ⟨r, p', e, h⟩ := hd p k many rest hp hk h1 h2
  refine ⟨r, p', ?_, h⟩
  have e0 : mVar 0 ρ (pD p :: rest) = .ok (.val (.box 0)) (pD p :: rest) := by unfold mVar; rw [h0]
  rw [ev_F (ev_cons e0 (ev_cons hm ev_nil))]
  exact e
/-! ### ends -/
theorem Drw_a (CA : Ly) : Drw (r__law_draw CA) := draw_ok (by decide) (by decide) (by decide) (by decide)
theorem Drw_b (CA : Ly) : Drw (r__law_draw_b CA) := draw_ok (by decide) (by decide) (by decide) (by decide)
end Q0

set_option Elab.async false
set_option linter.all false
set_option maxRecDepth 100000
set_option maxHeartbeats 4000000
/-! K14: stretches near others; sets made of stretches. -/
namespace DL
open PySem
theorem ev_CM {u : Addr} {mf : MF} {a : MA} {ρ : Sl} {bx b : List D} {ds : List D} (h : a ρ bx = .ok ds b) : mCM u mf (mC (.adr u)) a ρ bx = mf (.adr u :: ds) b := by
  show (if u = u then (a ρ bx).bind fun ds b1 => mf (.adr u :: ds) b1 else .stk) = _
  rw [if_pos rfl, h]
  rfl
theorem while_F {t : MB} {m : MS} {k : Nat} {ρ : Sl} {bx b : List D} (h : t ρ bx = .ok false b) : mWhile t m (k + 1) ρ bx = .nx ρ b := by
  unfold mWhile; rw [h]; rfl
theorem while_T {t : MB} {m : MS} {k : Nat} {ρ ρ' : Sl} {bx b b' : List D} (h : t ρ bx = .ok true b) (h2 : m ρ b = .nx ρ' b') : mWhile t m (k + 1) ρ bx = mWhile t m k ρ' b' := by
  rw [mWhile]
  simp only [h, liftE, if_true, h2]
theorem er_map {α β : Type} (f : α → β) : ∀ (l : List α) (j : Nat), (l.map f).eraseIdx j = (l.eraseIdx j).map f
  | [], _ => rfl
  | _ :: _, 0 => rfl
  | a :: l, j + 1 => by
    rw [List.map_cons, List.eraseIdx_cons_succ, List.eraseIdx_cons_succ, List.map_cons, er_map f l j]
theorem er_mem {α : Type} : ∀ (l : List α) (j : Nat) (h : j < l.length) (x : α), x ∈ l ↔ x = l[j] ∨ x ∈ l.eraseIdx j
  | a :: l, 0, _, x => by simp
  | a :: l, j + 1, h, x => by
    have h' : j < l.length := by simpa using h
    rw [List.eraseIdx_cons_succ, List.mem_cons, List.mem_cons, List.getElem_cons_succ, er_mem l j h' x]
    exact or_left_comm
end DL

set_option Elab.async false
set_option linter.all false
set_option maxRecDepth 100000
set_option maxHeartbeats 4000000
/-! QT: trees, three truths, filters. -/
namespace DL
open PySem
theorem eqv_ss (x y : Str) : PyData.eqv (.str x) (.str y) = decide (x = y) := by
  by_cases h : x = y
  · subst h; simp [PyData.eqv]
  · simp [PyData.eqv, h]
theorem eq_ss (x y : Str) (bx : List D) (hx : SeqAt.shaped (.str x) = true := by decide +kernel) (hy : SeqAt.shaped (.str y) = true := by decide +kernel) : eqD (.str x) (.str y) bx = OK (.bl (decide (x = y))) bx := by
  show (if SeqAt.shaped (.str x) = true ∧ SeqAt.shaped (.str y) = true then OK (.bl (PyData.eqv (.str x) (.str y))) bx else .stk) = _
  rw [if_pos ⟨hx, hy⟩, eqv_ss]
theorem ne_ss (x y : Str) (bx : List D) (hx : SeqAt.shaped (.str x) = true := by decide +kernel) (hy : SeqAt.shaped (.str y) = true := by decide +kernel) : neD (.str x) (.str y) bx = OK (.bl (!decide (x = y))) bx := by
  show (if SeqAt.shaped (.str x) = true ∧ SeqAt.shaped (.str y) = true then OK (.bl (!PyData.eqv (.str x) (.str y))) bx else .stk) = _
  rw [if_pos ⟨hx, hy⟩, eqv_ss]
end DL
namespace Q0
open PySem DL
inductive Tr where
  | win (c : Str) (st : List Stretch)
  | miss (c : Str)
  | alw
  | nev
  | and (a b : Tr)
  | or (a b : Tr)
  | no (a : Tr)
def tD : Tr → D
  | .win c st => .tup [.str "within", .str c, .tup (st.map sD)]
  | .miss c => .tup [.str "missing", .str c]
  | .alw => .tup [.str "always"]
  | .nev => .tup [.str "never"]
  | .and a b => .tup [.str "and", tD a, tD b]
  | .or a b => .tup [.str "or", tD a, tD b]
  | .no a => .tup [.str "not", tD a]
def Tr.deep : Tr → Nat
  | .and a b => max a.deep b.deep + 1
  | .or a b => max a.deep b.deep + 1
  | .no a => a.deep + 1
  | _ => 1
def Tr.cols : Tr → List Str
  | .win c _ => [c]
  | .miss c => [c]
  | .and a b => a.cols ++ b.cols
  | .or a b => a.cols ++ b.cols
  | .no a => a.cols
  | _ => []
/-- no stretch is missing -/
def Tr.ok : Tr → Prop
  | .win _ st => st.length ≤ 1000000
  | .and a b => a.ok ∧ b.ok
  | .or a b => a.ok ∧ b.ok
  | .no a => a.ok
  | _ => True
abbrev dB : Option Bool → D
  | none => .non
  | some b => .bl b
def bothF (p q : Option Bool) (s : Bool) : Option Bool := if p = some s ∨ q = some s then some s else if p = none ∨ q = none then none else some (!s)
/-- what a tree says -/
def says (ρ : Str → Option Int) : Tr → Option Bool
  | .win c st => (ρ c).map (hasB st)
  | .miss c => some (ρ c).isNone
  | .alw => some true
  | .nev => some false
  | .and a b => bothF (says ρ a) (says ρ b) false
  | .or a b => bothF (says ρ a) (says ρ b) true
  | .no a => (says ρ a).map (!·)
theorem says_congr {ρ ρ' : Str → Option Int} : ∀ t : Tr, (∀ c ∈ t.cols, ρ c = ρ' c) → says ρ t = says ρ' t
  | .win c st, h => by simp only [says]; rw [h c (List.mem_singleton.mpr rfl)]
  | .miss c, h => by simp only [says]; rw [h c (List.mem_singleton.mpr rfl)]
  | .alw, _ => rfl
  | .nev, _ => rfl
  | .and a b, h => by
    simp only [says]
    rw [says_congr a fun c hc => h c (List.mem_append_left _ hc), says_congr b fun c hc => h c (List.mem_append_right _ hc)]
  | .or a b, h => by
    simp only [says]
    rw [says_congr a fun c hc => h c (List.mem_append_left _ hc), says_congr b fun c hc => h c (List.mem_append_right _ hc)]
  | .no a, h => by
    simp only [says]
    rw [says_congr a h]
section
variable {CA : Ly} {bx : List D} {x y : D}
theorem c_both (CA : Ly) (p q : Option Bool) (s : Bool) (bx : List D) : r_both CA [dB p, dB q, .bl s] bx = .ok (.val (dB (bothF p q s))) bx := by
  cases p with
  | none => cases q with
    | none => cases s <;> exact run_rt rfl
    | some q => cases q <;> cases s <;> exact run_rt rfl
  | some p => cases q with
    | none => cases p <;> cases s <;> exact run_rt rfl
    | some q => cases p <;> cases q <;> cases s <;> exact run_rt rfl
/-- the values by columns -/
def Look (x : D) (bx : List D) (ρ : Str → Option Int) (c : Str) : Prop := dgD x (.str c) bx = .ok (.val (oD (ρ c))) bx
theorem dB_ne (p : Option Bool) : ∀ j, dB p ≠ .box j := fun j => by cases p <;> (intro h; cases h)
abbrev T5 (t x : D) (o2 o3 o4 : Option D) : Sl := [some t, some x, o2, o3, o4]
theorem eqw {w w' : Str} {o3 o4 : Option D} {t x : D} (h1 : SeqAt.shaped (.str w) = true := by decide +kernel) (h2 : SeqAt.shaped (.str w') = true := by decide +kernel) : mTest (mBin eqD (mVar 2) (mC (.str w'))) (T5 t x (some (.str w)) o3 o4) bx = .ok (decide (w = w')) bx :=
  ev_test ((ev_bin (r := .val (.str w)) (r' := .val (.str w')) (b := bx) (b' := bx) rfl rfl).trans (eq_ss w w' bx h1 h2))
theorem inw {w : Str} {o3 o4 : Option D} {t x : D} : mTest (mBin (DL.inS false) (mVar 2) (mTup (aCons (mC (.str "and")) (aCons (mC (.str "or")) aNil)))) (T5 t x (some (.str w)) o3 o4) bx = .ok (decide (w = "and") || decide (w = "or")) bx := by
  refine ev_test ((ev_bin (r := .val (.str w)) (r' := .val (.tup [.str "and", .str "or"])) (b := bx) (b' := bx) rfl rfl).trans ?_)
  have e : ∀ a b : Str, (a == b) = decide (b = a) := fun a b => by
    by_cases h : a = b
    · subst h; simp
    · rw [decide_eq_false (fun z => h z.symm)]; simpa using h
  show OK (.bl ((("and" : Str) == w) || ((("or" : Str) == w) || false))) bx = _
  rw [Bool.or_false, e, e]
theorem c_truth (CA : Ly) (hb : Cb bx) {ρ : Str → Option Int} : ∀ (n : Nat) (t : Tr), t.deep ≤ n → t.ok → (∀ c ∈ t.cols, Look x bx ρ c) → r_truth_of CA n [tD t, x] bx = .ok (.val (dB (says ρ t))) bx
  | 0, t, h, _, _ => by cases t <;> simp [Tr.deep] at h
  | n + 1, t, h, hok, hl => by
    refine (ar_ok rfl).trans ?_
    have fin : ∀ d : D, m_truth_of CA (r_truth_of CA n) (T5 (tD t) x none none none) bx = .rt (.val d) bx → body 5 (m_truth_of CA (r_truth_of CA n)) [tD t, x] bx = .ok (.val d) bx := fun d e => body_rt e rfl
    refine fin _ ?_
    cases t with
    | win c st =>
      have s1 : mAsg (mBin ixD (mVar 0) (mC (.int 0))) (gN 2) (T5 (tD (.win c st)) x none none none) bx = .nx (T5 (tD (.win c st)) x (some (.str "within")) none none) bx := rfl
      unfold m_truth_of
      rw [ev_seq s1]
      refine ev_seqR ?_
      rw [ev_ifT (b := bx) ((eqw).trans rfl)]
      have e1 : mBin dgD (mVar 1) (mBin ixD (mVar 0) (mC (.int 1))) (T5 (tD (.win c st)) x (some (.str "within")) none none) bx = .ok (.val (oD (ρ c))) bx :=
        (ev_bin (r := .val x) (r' := .val (.str c)) (b := bx) (b' := bx) rfl rfl).trans (hl c (List.mem_singleton.mpr rfl))
      rw [ev_seq (ev_asg (i := 3) e1)]
      refine ev_ret ?_
      simp only [says]
      cases q : ρ c with
      | none => rfl
      | some k =>
        have e2 := c_has_number CA (x := .tup (st.map sD)) (n := k) (bx := bx) (.inl rfl) (Nat.le_trans hok (by decide))
        show mIf _ _ _ (T5 (tD (.win c st)) x (some (.str "within")) (some (.int k)) none) bx = _
        unfold mIf
        rw [show mTest (mUn isN (mVar 3)) (T5 (tD (.win c st)) x (some (.str "within")) (some (.int k)) none) bx = .ok false bx from rfl]
        simp only [Out.bind_ok, Bool.false_eq_true, if_false]
        rw [ev_F (ev_cons (r := .val (.tup (st.map sD))) (b := bx) rfl (ev_cons (r := .val (.int k)) (b := bx) rfl ev_nil))]
        exact e2
    | miss c =>
      have s1 : mAsg (mBin ixD (mVar 0) (mC (.int 0))) (gN 2) (T5 (tD (.miss c)) x none none none) bx = .nx (T5 (tD (.miss c)) x (some (.str "missing")) none none) bx := rfl
      unfold m_truth_of
      rw [ev_seq s1, ev_seq (ev_no ((eqw).trans rfl))]
      refine ev_seqR ?_
      rw [ev_ifT (b := bx) ((eqw).trans rfl)]
      have e1 : mBin dgD (mVar 1) (mBin ixD (mVar 0) (mC (.int 1))) (T5 (tD (.miss c)) x (some (.str "missing")) none none) bx = .ok (.val (oD (ρ c))) bx :=
        (ev_bin (r := .val x) (r' := .val (.str c)) (b := bx) (b' := bx) rfl rfl).trans (hl c (List.mem_singleton.mpr rfl))
      refine ev_ret ((ev_un e1).trans ?_)
      simp only [says]
      cases ρ c <;> rfl
    | alw =>
      have s1 : mAsg (mBin ixD (mVar 0) (mC (.int 0))) (gN 2) (T5 (tD .alw) x none none none) bx = .nx (T5 (tD .alw) x (some (.str "always")) none none) bx := rfl
      unfold m_truth_of
      rw [ev_seq s1, ev_seq (ev_no ((eqw).trans rfl)), ev_seq (ev_no ((eqw).trans rfl)), ev_seq (ev_no ((eqw).trans rfl)), ev_seq (ev_no ((inw).trans rfl))]
      exact ev_ret ((ev_bin (r := .val (.str "always")) (r' := .val (.str "always")) (b := bx) (b' := bx) rfl rfl).trans ((eq_ss _ _ bx).trans rfl))
    | nev =>
      have s1 : mAsg (mBin ixD (mVar 0) (mC (.int 0))) (gN 2) (T5 (tD .nev) x none none none) bx = .nx (T5 (tD .nev) x (some (.str "never")) none none) bx := rfl
      unfold m_truth_of
      rw [ev_seq s1, ev_seq (ev_no ((eqw).trans rfl)), ev_seq (ev_no ((eqw).trans rfl)), ev_seq (ev_no ((eqw).trans rfl)), ev_seq (ev_no ((inw).trans rfl))]
      exact ev_ret ((ev_bin (r := .val (.str "never")) (r' := .val (.str "always")) (b := bx) (b' := bx) rfl rfl).trans ((eq_ss _ _ bx).trans rfl))
    | and a b =>
      have h2 : max a.deep b.deep + 1 ≤ n + 1 := h
      have ea := c_truth CA hb n a (by omega) hok.1 fun c hc => hl c (List.mem_append_left _ hc)
      have eb := c_truth CA hb n b (by omega) hok.2 fun c hc => hl c (List.mem_append_right _ hc)
      have s1 : mAsg (mBin ixD (mVar 0) (mC (.int 0))) (gN 2) (T5 (tD (.and a b)) x none none none) bx = .nx (T5 (tD (.and a b)) x (some (.str "and")) none none) bx := rfl
      unfold m_truth_of
      rw [ev_seq s1, ev_seq (ev_no ((eqw).trans rfl)), ev_seq (ev_no ((eqw).trans rfl)), ev_seq (ev_no ((eqw).trans rfl))]
      refine ev_seqR ?_
      rw [ev_ifT (b := bx) ((inw).trans rfl)]
      refine ev_ret ?_
      have e1 : mF (r_truth_of CA n) (aCons (mBin ixD (mVar 0) (mC (.int 1))) (aCons (mVar 1) aNil)) (T5 (tD (.and a b)) x (some (.str "and")) none none) bx = .ok (.val (dB (says ρ a))) bx := (ev_F (ev_cons (r := .val (tD a)) (b := bx) rfl (ev_cons (r := .val x) (b := bx) rfl ev_nil))).trans ea
      have e2 : mF (r_truth_of CA n) (aCons (mBin ixD (mVar 0) (mC (.int 2))) (aCons (mVar 1) aNil)) (T5 (tD (.and a b)) x (some (.str "and")) none none) bx = .ok (.val (dB (says ρ b))) bx := (ev_F (ev_cons (r := .val (tD b)) (b := bx) rfl (ev_cons (r := .val x) (b := bx) rfl ev_nil))).trans eb
      have e3 : mBin eqD (mVar 2) (mC (.str "or")) (T5 (tD (.and a b)) x (some (.str "and")) none none) bx = .ok (.val (.bl false)) bx := (ev_bin (r := .val (.str "and")) (r' := .val (.str "or")) (b := bx) (b' := bx) rfl rfl).trans ((eq_ss _ _ bx).trans rfl)
      rw [ev_F (ev_cons e1 (ev_cons e2 (ev_cons e3 ev_nil)))]
      exact c_both CA _ _ _ _
    | or a b =>
      have h2 : max a.deep b.deep + 1 ≤ n + 1 := h
      have ea := c_truth CA hb n a (by omega) hok.1 fun c hc => hl c (List.mem_append_left _ hc)
      have eb := c_truth CA hb n b (by omega) hok.2 fun c hc => hl c (List.mem_append_right _ hc)
      have s1 : mAsg (mBin ixD (mVar 0) (mC (.int 0))) (gN 2) (T5 (tD (.or a b)) x none none none) bx = .nx (T5 (tD (.or a b)) x (some (.str "or")) none none) bx := rfl
      unfold m_truth_of
      rw [ev_seq s1, ev_seq (ev_no ((eqw).trans rfl)), ev_seq (ev_no ((eqw).trans rfl)), ev_seq (ev_no ((eqw).trans rfl))]
      refine ev_seqR ?_
      rw [ev_ifT (b := bx) ((inw).trans rfl)]
      refine ev_ret ?_
      have e1 : mF (r_truth_of CA n) (aCons (mBin ixD (mVar 0) (mC (.int 1))) (aCons (mVar 1) aNil)) (T5 (tD (.or a b)) x (some (.str "or")) none none) bx = .ok (.val (dB (says ρ a))) bx := (ev_F (ev_cons (r := .val (tD a)) (b := bx) rfl (ev_cons (r := .val x) (b := bx) rfl ev_nil))).trans ea
      have e2 : mF (r_truth_of CA n) (aCons (mBin ixD (mVar 0) (mC (.int 2))) (aCons (mVar 1) aNil)) (T5 (tD (.or a b)) x (some (.str "or")) none none) bx = .ok (.val (dB (says ρ b))) bx := (ev_F (ev_cons (r := .val (tD b)) (b := bx) rfl (ev_cons (r := .val x) (b := bx) rfl ev_nil))).trans eb
      have e3 : mBin eqD (mVar 2) (mC (.str "or")) (T5 (tD (.or a b)) x (some (.str "or")) none none) bx = .ok (.val (.bl true)) bx := (ev_bin (r := .val (.str "or")) (r' := .val (.str "or")) (b := bx) (b' := bx) rfl rfl).trans ((eq_ss _ _ bx).trans rfl)
      rw [ev_F (ev_cons e1 (ev_cons e2 (ev_cons e3 ev_nil)))]
      exact c_both CA _ _ _ _
    | no a =>
      have h2 : a.deep + 1 ≤ n + 1 := h
      have ea := c_truth CA hb n a (by omega) hok hl
      have s1 : mAsg (mBin ixD (mVar 0) (mC (.int 0))) (gN 2) (T5 (tD (.no a)) x none none none) bx = .nx (T5 (tD (.no a)) x (some (.str "not")) none none) bx := rfl
      unfold m_truth_of
      rw [ev_seq s1, ev_seq (ev_no ((eqw).trans rfl)), ev_seq (ev_no ((eqw).trans rfl))]
      refine ev_seqR ?_
      rw [ev_ifT (b := bx) ((eqw).trans rfl)]
      have e1 : mF (r_truth_of CA n) (aCons (mBin ixD (mVar 0) (mC (.int 1))) (aCons (mVar 1) aNil)) (T5 (tD (.no a)) x (some (.str "not")) none none) bx = .ok (.val (dB (says ρ a))) bx := (ev_F (ev_cons (r := .val (tD a)) (b := bx) rfl (ev_cons (r := .val x) (b := bx) rfl ev_nil))).trans ea
      rw [ev_seq (ev_asg (i := 4) e1)]
      refine ev_ret ?_
      simp only [says]
      cases says ρ a with
      | none => rfl
      | some k => cases k <;> rfl
end
end Q0

set_option Elab.async false
set_option linter.all false
set_option maxRecDepth 100000
set_option maxHeartbeats 4000000
/-! QF: filters made, joined, called. -/
namespace DL
open PySem
theorem ev_ext {mo : ME} {ma : MA} {ρ : Sl} {bx b : List D} {n : Nat} {xs zs : List D} (ho : mo ρ bx = .ok (.val (.box n)) bx) (hx : bx[n]? = some (.lst xs)) (ha : ma ρ bx = .ok [.lst zs] b) (hx' : b[n]? = some (.lst xs)) (hl : xs.length + zs.length ≤ sizeLine) : mExpr (mBm extD mo ma) ρ bx = .nx ρ (b.set n (.lst (xs ++ zs))) := by
  refine ev_expr (r := .val .non) ?_
  unfold mBm
  rw [ho]
  have e1 : D.sL bx (.box n) = some xs := by
    show (match bx[n]? with | some (.lst ds) => some ds | _ => none) = _
    rw [hx]
  simp only [Out.bind_ok]
  show (match D.sL bx (.box n) with | some _ => _ | none => _) = _
  rw [e1]
  simp only [ha, Out.bind_ok]
  show (match b[n]?, (D.lst zs).hL b with | some (.lst xs), some zs => if xs.length + zs.length ≤ sizeLine then OK .non (b.set n (.lst (xs ++ zs))) else .stk | _, _ => .stk) = _
  rw [hx']
  show (if xs.length + zs.length ≤ sizeLine then OK .non (b.set n (.lst (xs ++ zs))) else .stk) = _
  rw [if_pos hl]
theorem strL_map : ∀ xs : List Str, strL (xs.map D.str) = some xs
  | [] => rfl
  | x :: xs => by
    show (strL (xs.map D.str)).map (x :: ·) = _
    rw [strL_map xs]; rfl
theorem cls_str (b : Nat) : ∀ xs : List Str, D.cls b (xs.map .str) = true
  | [] => rfl
  | x :: xs => by
    show (true && D.cls b (xs.map .str)) = true
    rw [cls_str b xs]; rfl
end DL
namespace Q0
open PySem DL
theorem cl_t (b : Nat) : ∀ t : Tr, (tD t).cl b = true
  | .win c st => by
    show (true && (true && (D.cls b (st.map sD) && true))) = true
    rw [cls_s]; rfl
  | .miss c => rfl
  | .alw => rfl
  | .nev => rfl
  | .and t u => by
    show (true && ((tD t).cl b && ((tD u).cl b && true))) = true
    rw [cl_t b t, cl_t b u]; rfl
  | .or t u => by
    show (true && ((tD t).cl b && ((tD u).cl b && true))) = true
    rw [cl_t b t, cl_t b u]; rfl
  | .no t => by
    show (true && ((tD t).cl b && true)) = true
    rw [cl_t b t]; rfl
abbrev fD (t : Tr) : D := .ins 1 ["tree", "columns"] [tD t, .tup ((DN.sortU t.cols).map .str)]
theorem cl_f (b : Nat) (t : Tr) : (fD t).cl b = true := by
  show ((tD t).cl b && (D.cls b ((DN.sortU t.cols).map .str) && true)) = true
  rw [cl_t, cls_str]; rfl
structure Fw (d n : Nat) (t : Tr) : Prop where
  deep : t.deep ≤ d
  cols : t.cols.length ≤ n
  ok : t.ok
theorem Fw.mono {d d' n n' : Nat} {t : Tr} (h : Fw d n t) (hd : d ≤ d') (hn : n ≤ n') : Fw d' n' t := ⟨Nat.le_trans h.deep hd, Nat.le_trans h.cols hn, h.ok⟩
theorem Fw.and {d n m : Nat} {t u : Tr} (h : Fw d n t) (h' : Fw d m u) : Fw (d + 1) (n + m) (.and t u) := ⟨by have := h.deep; have := h'.deep; simp only [Tr.deep]; omega, by have := h.cols; have := h'.cols; simp only [Tr.cols, List.length_append]; omega, h.ok, h'.ok⟩
theorem Fw.or {d n m : Nat} {t u : Tr} (h : Fw d n t) (h' : Fw d m u) : Fw (d + 1) (n + m) (.or t u) := ⟨by have := h.deep; have := h'.deep; simp only [Tr.deep]; omega, by have := h.cols; have := h'.cols; simp only [Tr.cols, List.length_append]; omega, h.ok, h'.ok⟩
theorem Fw.no {d n : Nat} {t : Tr} (h : Fw d n t) : Fw (d + 1) n (.no t) := ⟨by have := h.deep; simp only [Tr.deep]; omega, h.cols, h.ok⟩
section
variable {CA : Ly} {bx : List D} {x y : D}
def m_ce (rc : MF) : MS := mExpr (mBm extD (mVar 1) (aCons (mF rc (aCons (mVar 2) aNil)) aNil))
theorem ce_loop {rc : MF} {t : Tr} (hb : Cb bx) : ∀ (ts : List Tr) (acc : List Str) (o : Option D), (∀ u ∈ ts, ∀ B : List D, Cb B → rc [tD u] B = .ok (.new (.lst (u.cols.map .str))) B) → acc.length + (ts.flatMap Tr.cols).length ≤ 1000 →
    ∃ p, loop (gN 2) (m_ce rc) (ts.map tD) [some (tD t), some (.box bx.length), o] (bx ++ [D.lst (acc.map .str)]) = .nx [some (tD t), some (.box bx.length), p] (bx ++ [D.lst ((acc ++ ts.flatMap Tr.cols).map .str)])
  | [], acc, o, _, _ => ⟨o, by simp [loop]⟩
  | u :: ts, acc, o, h, hl => by
    rw [List.flatMap_cons, List.length_append] at hl
    obtain ⟨p, e⟩ := ce_loop (rc := rc) (t := t) hb ts (acc ++ u.cols) (some (tD u)) (fun v hv => h v (List.mem_cons_of_mem _ hv)) (by rw [List.length_append]; omega)
    refine ⟨p, ?_⟩
    have hB : Cb (bx ++ [D.lst (acc.map .str)]) := hb.snoc (cls_str _ _)
    have e1 : m_ce rc [some (tD t), some (.box bx.length), some (tD u)] (bx ++ [D.lst (acc.map .str)]) = .nx [some (tD t), some (.box bx.length), some (tD u)] (bx ++ [D.lst ((acc ++ u.cols).map .str)]) := by
      have ha : aCons (mF rc (aCons (mVar 2) aNil)) aNil [some (tD t), some (.box bx.length), some (tD u)] (bx ++ [D.lst (acc.map .str)]) = .ok [.lst (u.cols.map .str)] (bx ++ [D.lst (acc.map .str)]) :=
        ev_cons ((ev_F (ev_cons (r := .val (tD u)) (b := bx ++ [D.lst (acc.map .str)]) rfl ev_nil)).trans (h u (List.mem_cons_self ..) _ hB)) ev_nil
      unfold m_ce
      rw [ev_ext (n := bx.length) (xs := acc.map .str) rfl (get_end ..) ha (get_end ..) (by simp; unfold sizeLine; omega), set_end, List.map_append]
    rw [List.map_cons, loop_nx (ρ1 := [some (tD t), some (.box bx.length), some (tD u)]) rfl e1, e, List.flatMap_cons, List.append_assoc]
def w2c : MB := mTest (mBin (DL.inS false) (mBin ixD (mVar 0) (mC (.int 0))) (mTup (aCons (mC (.str "within")) (aCons (mC (.str "missing")) aNil))))
def w3c : MB := mTest (mBin (DL.inS false) (mBin ixD (mVar 0) (mC (.int 0))) (mTup (aCons (mC (.str "and")) (aCons (mC (.str "or")) (aCons (mC (.str "not")) aNil)))))
theorem m_cols_eq (CA : Ly) (rc : MF) : m_columns_in CA rc = (mSeq (mIfS w2c (mRet (mLst (aCons (mBin ixD (mVar 0) (mC (.int 1))) aNil))) mSkip)
  (mSeq (mBox (mLst aNil) 1)
  (mSeq (mIfS w3c (mFor (iSeq (mSlice (mVar 0) (pSome (mC (.int 1))) pNone)) (gN 2) (m_ce rc)) mSkip)
  (mRet (mVar 1))))) := rfl
theorem c_leaf (CA : Ly) {rc : MF} {t : Tr} {c : Str} (h : w2c [some (tD t), none, none] bx = .ok true bx) (hc : mBin ixD (mVar 0) (mC (.int 1)) [some (tD t), none, none] bx = .ok (.val (.str c)) bx) : ar 1 (body 3 (m_columns_in CA rc)) [tD t] bx = .ok (.new (.lst [.str c])) bx := by
  refine run_rt ?_
  show m_columns_in CA rc [some (tD t), none, none] bx = _
  rw [m_cols_eq]
  refine ev_seqR ?_
  rw [ev_ifT h]
  refine ev_ret ?_
  unfold mLst
  rw [ev_cons hc ev_nil]
  rfl
theorem c_inner (CA : Ly) (hb : Cb bx) {rc : MF} {t : Tr} {ts : List Tr} (hrc : ∀ u ∈ ts, ∀ B : List D, Cb B → rc [tD u] B = .ok (.new (.lst (u.cols.map .str))) B) (hl : (ts.flatMap Tr.cols).length ≤ 1000)
    (h2 : w2c [some (tD t), none, none] bx = .ok false bx) (h3 : ∀ B, (w3c [some (tD t), some (.box bx.length), none] B = .ok true B ∧ iSeq (mSlice (mVar 0) (pSome (mC (.int 1))) pNone) [some (tD t), some (.box bx.length), none] B = .ok (ts.map tD) B) ∨ (w3c [some (tD t), some (.box bx.length), none] B = .ok false B ∧ ts = [])) :
    ar 1 (body 3 (m_columns_in CA rc)) [tD t] bx = .ok (.new (.lst ((ts.flatMap Tr.cols).map .str))) bx := by
  have a1 : mBox (mLst aNil) 1 [some (tD t), none, none] bx = .nx [some (tD t), some (.box bx.length), none] (bx ++ [D.lst (([] : List Str).map .str)]) := ev_box (m := mLst aNil) (i := 1) (d := .lst []) (b := bx) rfl
  obtain ⟨p, e⟩ := ce_loop (rc := rc) (t := t) hb ts [] none hrc (by simpa using hl)
  rw [List.nil_append] at e
  have a2 : ∃ q, mIfS w3c (mFor (iSeq (mSlice (mVar 0) (pSome (mC (.int 1))) pNone)) (gN 2) (m_ce rc)) mSkip [some (tD t), some (.box bx.length), none] (bx ++ [D.lst (([] : List Str).map .str)]) = .nx [some (tD t), some (.box bx.length), q] (bx ++ [D.lst ((ts.flatMap Tr.cols).map .str)]) := by
    rcases h3 (bx ++ [D.lst (([] : List Str).map .str)]) with ⟨k1, k2⟩ | ⟨k1, rfl⟩
    · exact ⟨p, by rw [ev_ifT k1]; exact (ev_for k2).trans e⟩
    · exact ⟨none, by rw [ev_no k1]; rfl⟩
  obtain ⟨q, a2⟩ := a2
  have e3 : m_columns_in CA rc [some (tD t), none, none] bx = .rt (.val (.box bx.length)) (bx ++ [D.lst ((ts.flatMap Tr.cols).map .str)]) := by
    rw [m_cols_eq, ev_seq (ev_no h2), ev_seq a1, ev_seq a2]
    rfl
  have := body_nw (n := 3) (k := 1) (m := m_columns_in CA rc) (ds := [tD t]) (bx := bx) (b := bx ++ [D.lst ((ts.flatMap Tr.cols).map .str)]) (ex := []) (d := .lst ((ts.flatMap Tr.cols).map .str)) (j := bx.length) e3 (by simp) rfl (get_end ..) (by simpa using hb) (cls_str _ _)
  simpa using this
theorem w2_ev {w : Str} {d : D} {o1 o2 : Option D} (h0 : mBin ixD (mVar 0) (mC (.int 0)) [some d, o1, o2] bx = .ok (.val (.str w)) bx) : w2c [some d, o1, o2] bx = .ok (("within" : Str) == w || (("missing" : Str) == w || false)) bx :=
  ev_test ((ev_bin h0 (r' := .val (.tup [.str "within", .str "missing"])) (b' := bx) rfl).trans rfl)
theorem w3_ev {w : Str} {d : D} {o1 o2 : Option D} (h0 : mBin ixD (mVar 0) (mC (.int 0)) [some d, o1, o2] bx = .ok (.val (.str w)) bx) : w3c [some d, o1, o2] bx = .ok (("and" : Str) == w || (("or" : Str) == w || (("not" : Str) == w || false))) bx :=
  ev_test ((ev_bin h0 (r' := .val (.tup [.str "and", .str "or", .str "not"])) (b' := bx) rfl).trans rfl)
theorem c_cols (CA : Ly) : ∀ (n : Nat) (t : Tr) (bx : List D), Cb bx → t.deep ≤ n → t.cols.length ≤ 1000 → r_columns_in CA n [tD t] bx = .ok (.new (.lst (t.cols.map .str))) bx
  | 0, t, bx, hb, h, _ => by cases t <;> simp [Tr.deep] at h
  | n + 1, t, bx, hb, h, hl => by
    show ar 1 (body 3 (m_columns_in CA (r_columns_in CA n))) [tD t] bx = _
    cases t with
    | win c st => exact c_leaf CA (t := .win c st) ((w2_ev (w := "within") rfl).trans rfl) rfl
    | miss c => exact c_leaf CA (t := .miss c) ((w2_ev (w := "missing") rfl).trans rfl) rfl
    | alw => exact c_inner CA hb (t := .alw) (ts := []) (fun u hu => by simp at hu) (by simp) ((w2_ev (w := "always") rfl).trans rfl) fun B => .inr ⟨(w3_ev (w := "always") rfl).trans rfl, rfl⟩
    | nev => exact c_inner CA hb (t := .nev) (ts := []) (fun u hu => by simp at hu) (by simp) ((w2_ev (w := "never") rfl).trans rfl) fun B => .inr ⟨(w3_ev (w := "never") rfl).trans rfl, rfl⟩
    | and a b =>
      have h2 : max a.deep b.deep + 1 ≤ n + 1 := h
      have hl2 : a.cols.length + b.cols.length ≤ 1000 := by simpa [Tr.cols] using hl
      have := c_inner CA hb (rc := r_columns_in CA n) (t := .and a b) (ts := [a, b]) (fun u hu B hB => by
        rcases List.mem_cons.mp hu with rfl | hu
        · exact c_cols CA n _ B hB (by omega) (by omega)
        · rw [List.mem_singleton.mp hu]; exact c_cols CA n b B hB (by omega) (by omega)) (by simpa using hl2) ((w2_ev (w := "and") rfl).trans rfl) fun B => .inl ⟨(w3_ev (w := "and") rfl).trans rfl, rfl⟩
      simpa [Tr.cols] using this
    | or a b =>
      have h2 : max a.deep b.deep + 1 ≤ n + 1 := h
      have hl2 : a.cols.length + b.cols.length ≤ 1000 := by simpa [Tr.cols] using hl
      have := c_inner CA hb (rc := r_columns_in CA n) (t := .or a b) (ts := [a, b]) (fun u hu B hB => by
        rcases List.mem_cons.mp hu with rfl | hu
        · exact c_cols CA n _ B hB (by omega) (by omega)
        · rw [List.mem_singleton.mp hu]; exact c_cols CA n b B hB (by omega) (by omega)) (by simpa using hl2) ((w2_ev (w := "or") rfl).trans rfl) fun B => .inl ⟨(w3_ev (w := "or") rfl).trans rfl, rfl⟩
      simpa [Tr.cols] using this
    | no a =>
      have h2 : a.deep + 1 ≤ n + 1 := h
      have := c_inner CA hb (rc := r_columns_in CA n) (t := .no a) (ts := [a]) (fun u hu B hB => by
        rw [List.mem_singleton.mp hu]; exact c_cols CA n a B hB (by omega) hl) (by simpa [Tr.cols] using hl) ((w2_ev (w := "not") rfl).trans rfl) fun B => .inl ⟨(w3_ev (w := "not") rfl).trans rfl, rfl⟩
      simpa [Tr.cols] using this
/-! ### a filter made -/
theorem f_mk (CA : Ly) (hb : Cb bx) {t : Tr} (h : Fw 24 62 t) : mkD 1 (r_Filter___init__ CA) [tD t] bx = .ok (.new (fD t)) bx := by
  have hb1 : Cb (bx ++ [D.ins 1 [] []]) := hb.snoc rfl
  have hb2 : Cb (bx ++ [D.ins 1 ["tree"] [tD t]]) := hb.snoc (by show ((tD t).cl _ && true) = true; rw [cl_t]; rfl)
  have hc := h.cols
  have ec := c_cols CA 24 t _ hb2 h.deep (by omega)
  have s1 : mSetF "tree" [1] (mVar 1) (mVar 0) [some (.box bx.length), some (tD t)] (bx ++ [D.ins 1 [] []]) = .nx [some (.box bx.length), some (tD t)] (bx ++ [D.ins 1 ["tree"] [tD t]]) := by
    have e3 : setF "tree" [1] (.box bx.length) (tD t) (bx ++ [D.ins 1 [] []]) = some (bx ++ [D.ins 1 ["tree"] [tD t]]) := by
      show (match (bx ++ [D.ins 1 [] []])[bx.length]? with
        | some (.ins c ns ds) => if c ∈ [1] ∧ ns.length < 1000 then some ((bx ++ [D.ins 1 [] []]).set bx.length (.ins c (putFD "tree" (tD t) ns ds).1 (putFD "tree" (tD t) ns ds).2)) else none
        | _ => none) = _
      rw [get_end]
      simp only
      rw [if_pos (by simp), set_end]
      rfl
    unfold mSetF
    show (match setF "tree" [1] (.box bx.length) (tD t) (bx ++ [D.ins 1 [] []]) with | some b2 => OutS.nx _ b2 | none => .stk) = _
    rw [e3]
  have e5 : mCB (un1 tupD) (aCons (mSortSet (mF (r_columns_in CA 24) (aCons (mVar 1) aNil))) aNil) [some (.box bx.length), some (tD t)] (bx ++ [D.ins 1 ["tree"] [tD t]]) = .ok (.val (.tup ((DN.sortU t.cols).map .str))) (bx ++ [D.ins 1 ["tree"] [tD t]]) := by
    have e4 : mSortSet (mF (r_columns_in CA 24) (aCons (mVar 1) aNil)) [some (.box bx.length), some (tD t)] (bx ++ [D.ins 1 ["tree"] [tD t]]) = .ok (.new (.lst ((DN.sortU t.cols).map .str))) (bx ++ [D.ins 1 ["tree"] [tD t]]) := by
      unfold mSortSet
      rw [ev_F (ev_cons (r := .val (tD t)) (b := bx ++ [D.ins 1 ["tree"] [tD t]]) rfl ev_nil)]
      simp only [R.d]
      rw [ec]
      simp only [Out.bind_ok, R.d]
      show (match strL (t.cols.map .str) with
        | some xs => if xs.length < 63 then Out.ok (R.new (.lst ((DN.sortU xs).map .str))) (bx ++ [D.ins 1 ["tree"] [tD t]]) else .stk
        | none => .stk) = _
      rw [strL_map]
      simp only
      rw [if_pos (by omega)]
    rw [ev_CB (ev_cons e4 ev_nil)]
    rfl
  have s2 : mSetF "columns" [1] (mCB (un1 tupD) (aCons (mSortSet (mF (r_columns_in CA 24) (aCons (mVar 1) aNil))) aNil)) (mVar 0) [some (.box bx.length), some (tD t)] (bx ++ [D.ins 1 ["tree"] [tD t]]) = .nx [some (.box bx.length), some (tD t)] (bx ++ [fD t]) := by
    have e3 : setF "columns" [1] (.box bx.length) (.tup ((DN.sortU t.cols).map .str)) (bx ++ [D.ins 1 ["tree"] [tD t]]) = some (bx ++ [fD t]) := by
      show (match (bx ++ [D.ins 1 ["tree"] [tD t]])[bx.length]? with
        | some (.ins c ns ds) => if c ∈ [1] ∧ ns.length < 1000 then some ((bx ++ [D.ins 1 ["tree"] [tD t]]).set bx.length (.ins c (putFD "columns" (.tup ((DN.sortU t.cols).map .str)) ns ds).1 (putFD "columns" (.tup ((DN.sortU t.cols).map .str)) ns ds).2)) else none
        | _ => none) = _
      rw [get_end]
      simp only
      rw [if_pos (by simp), set_end]
      rfl
    unfold mSetF
    rw [e5]
    show (match setF "columns" [1] (.box bx.length) (.tup ((DN.sortU t.cols).map .str)) (bx ++ [D.ins 1 ["tree"] [tD t]]) with | some b2 => OutS.nx _ b2 | none => .stk) = _
    rw [e3]
  have e2 : r_Filter___init__ CA [.box bx.length, tD t] (bx ++ [D.ins 1 [] []]) = .ok (.val .non) (bx ++ [fD t]) := by
    refine (ar_ok rfl).trans (body_nx (ρ := [some (.box bx.length), some (tD t)]) ?_ (by simp))
    show m_Filter___init__ CA [some (.box bx.length), some (tD t)] (bx ++ [D.ins 1 [] []]) = _
    unfold m_Filter___init__
    rw [ev_seq s1, s2]
  have tk : (bx ++ [fD t]).take bx.length = bx := by simp
  unfold mkD
  rw [e2]
  show (if (bx ++ [fD t]).length = bx.length + 1 ∧ ((bx ++ [fD t]).take bx.length).all (D.cl bx.length) = true then (match (bx ++ [fD t])[bx.length]? with | some d => if d.cl bx.length = true then Out.ok (R.new d) ((bx ++ [fD t]).take bx.length) else .stk | none => .stk) else .stk) = _
  rw [tk, if_pos ⟨by simp, hb⟩, get_end]
  simp only
  rw [if_pos (cl_f ..)]
theorem f_within (CA : Ly) (hb : Cb bx) (c : Str) {st : List Stretch} (hl : st.length ≤ 1000000) : r_Filter_within CA [.adr (CA 1), .str c, rD st] bx = .ok (.new (fD (.win c st))) bx := by
  refine run_rt ?_
  show m_Filter_within CA [some (.adr (CA 1)), some (.str c), some (rD st)] bx = _
  refine ev_ret ?_
  have e1 : mTup (aCons (mC (.str "within")) (aCons (mVar 1) (aCons (mUn (fldD "parts" [0]) (mVar 2)) aNil))) [some (.adr (CA 1)), some (.str c), some (rD st)] bx = .ok (.val (tD (.win c st))) bx := by
    unfold mTup
    rw [ev_cons (r := .val (.str "within")) (b := bx) rfl (ev_cons (r := .val (.str c)) (b := bx) rfl (ev_cons (fld_v (a := st) rfl) ev_nil))]
    rfl
  rw [ev_FL rfl, ev_F (ev_cons e1 ev_nil)]
  exact f_mk CA hb ⟨by simp [Tr.deep], by simp [Tr.cols], hl⟩
theorem f_missing (CA : Ly) (hb : Cb bx) (c : Str) : r_Filter_missing CA [.adr (CA 1), .str c] bx = .ok (.new (fD (.miss c))) bx := by
  refine run_rt ?_
  show m_Filter_missing CA [some (.adr (CA 1)), some (.str c)] bx = _
  refine ev_ret ?_
  rw [ev_FL rfl, ev_F (ev_cons (r := .val (tD (.miss c))) (b := bx) rfl ev_nil)]
  exact f_mk CA hb ⟨by simp [Tr.deep], by simp [Tr.cols], trivial⟩
theorem f_always (CA : Ly) (hb : Cb bx) : r_Filter_always CA [.adr (CA 1)] bx = .ok (.new (fD .alw)) bx := by
  refine run_rt ?_
  show m_Filter_always CA [some (.adr (CA 1))] bx = _
  refine ev_ret ?_
  rw [ev_F (ev_cons (r := .val (tD .alw)) (b := bx) rfl ev_nil)]
  exact f_mk CA hb ⟨by simp [Tr.deep], by simp [Tr.cols], trivial⟩
theorem f_never (CA : Ly) (hb : Cb bx) : r_Filter_never CA [.adr (CA 1)] bx = .ok (.new (fD .nev)) bx := by
  refine run_rt ?_
  show m_Filter_never CA [some (.adr (CA 1))] bx = _
  refine ev_ret ?_
  rw [ev_FL rfl, ev_F (ev_cons (r := .val (tD .nev)) (b := bx) rfl ev_nil)]
  exact f_mk CA hb ⟨by simp [Tr.deep], by simp [Tr.cols], trivial⟩
theorem tree_v {t : Tr} {i : Nat} {ρ : Sl} (h : ρ[i]? = some (some (fD t))) : mUn (fldD "tree" [1]) (mVar i) ρ bx = .ok (.val (tD t)) bx := by
  have e : mVar i ρ bx = .ok (.val (fD t)) bx := by unfold mVar; rw [h]
  rw [ev_un e]
  simp [fldD, D.obj, getF, R.d]
theorem f_and (CA : Ly) (hb : Cb bx) {a b : Tr} (h : Fw 24 62 (.and a b)) : noX (binC 1 (r_Filter___and__ CA) (fD a) (fD b) bx) = .ok (.new (fD (.and a b))) bx := by
  have e2 : r_Filter___and__ CA [fD a, fD b] bx = .ok (.new (fD (.and a b))) bx := by
    refine run_rt ?_
    show m_Filter___and__ CA [some (fD a), some (fD b)] bx = _
    refine ev_ret ?_
    have e1 : mTup (aCons (mC (.str "and")) (aCons (mUn (fldD "tree" [1]) (mVar 0)) (aCons (mUn (fldD "tree" [1]) (mVar 1)) aNil))) [some (fD a), some (fD b)] bx = .ok (.val (tD (.and a b))) bx := by
      unfold mTup
      rw [ev_cons (r := .val (.str "and")) (b := bx) rfl (ev_cons (tree_v (t := a) rfl) (ev_cons (tree_v (t := b) rfl) ev_nil))]
      rfl
    rw [ev_F (ev_cons e1 ev_nil)]
    exact f_mk CA hb h
  show noX (if 1 = 1 ∧ 1 = 1 then r_Filter___and__ CA [fD a, fD b] bx else .stk) = _
  rw [if_pos ⟨rfl, rfl⟩, e2]
  rfl
theorem f_or (CA : Ly) (hb : Cb bx) {a b : Tr} (h : Fw 24 62 (.or a b)) : noX (binC 1 (r_Filter___or__ CA) (fD a) (fD b) bx) = .ok (.new (fD (.or a b))) bx := by
  have e2 : r_Filter___or__ CA [fD a, fD b] bx = .ok (.new (fD (.or a b))) bx := by
    refine run_rt ?_
    show m_Filter___or__ CA [some (fD a), some (fD b)] bx = _
    refine ev_ret ?_
    have e1 : mTup (aCons (mC (.str "or")) (aCons (mUn (fldD "tree" [1]) (mVar 0)) (aCons (mUn (fldD "tree" [1]) (mVar 1)) aNil))) [some (fD a), some (fD b)] bx = .ok (.val (tD (.or a b))) bx := by
      unfold mTup
      rw [ev_cons (r := .val (.str "or")) (b := bx) rfl (ev_cons (tree_v (t := a) rfl) (ev_cons (tree_v (t := b) rfl) ev_nil))]
      rfl
    rw [ev_F (ev_cons e1 ev_nil)]
    exact f_mk CA hb h
  show noX (if 1 = 1 ∧ 1 = 1 then r_Filter___or__ CA [fD a, fD b] bx else .stk) = _
  rw [if_pos ⟨rfl, rfl⟩, e2]
  rfl
theorem f_no (CA : Ly) (hb : Cb bx) {a : Tr} (h : Fw 24 62 (.no a)) : noX (unC 1 (r_Filter___invert__ CA) (fD a) bx) = .ok (.new (fD (.no a))) bx := by
  have e2 : r_Filter___invert__ CA [fD a] bx = .ok (.new (fD (.no a))) bx := by
    refine run_rt ?_
    show m_Filter___invert__ CA [some (fD a)] bx = _
    refine ev_ret ?_
    have e1 : mTup (aCons (mC (.str "not")) (aCons (mUn (fldD "tree" [1]) (mVar 0)) aNil)) [some (fD a)] bx = .ok (.val (tD (.no a))) bx := by
      unfold mTup
      rw [ev_cons (r := .val (.str "not")) (b := bx) rfl (ev_cons (tree_v (t := a) rfl) ev_nil)]
      rfl
    rw [ev_F (ev_cons e1 ev_nil)]
    exact f_mk CA hb h
  show noX (if 1 = 1 then r_Filter___invert__ CA [fD a] bx else .stk) = _
  rw [if_pos rfl, e2]
  rfl
theorem f_call (CA : Ly) (hb : Cb bx) {t : Tr} {ρ : Str → Option Int} (h : Fw 24 62 t) (hl : ∀ c ∈ t.cols, Look x bx ρ c) : r_Filter___call__ CA [fD t, x] bx = .ok (.val (dB (says ρ t))) bx := by
  refine run_rt ?_
  show m_Filter___call__ CA [some (fD t), some x] bx = _
  refine ev_ret ?_
  rw [ev_F (ev_cons (tree_v (t := t) rfl) (ev_cons (r := .val x) (b := bx) rfl ev_nil))]
  exact c_truth CA hb 24 t h.deep h.ok hl
theorem ev_CI {CA : Ly} {mf : MF} {i : Nat} {a : MA} {ρ : Sl} {b : List D} {t : Tr} {ds : List D} (h : ρ[i]? = some (some (fD t))) (ha : a ρ bx = .ok ds b) : mCI 1 mf i a ρ bx = noX (mf (fD t :: ds) b) := by
  unfold mCI
  rw [h]
  show (match (some (1, ["tree", "columns"], [tD t, D.tup ((DN.sortU t.cols).map .str)]) : Option (Nat × List Str × List D)) with
    | some _ => (a ρ bx).bind fun ds b => match (fD t).obj b with
      | some (c1, _, _) => if c1 = 1 then noX (mf (fD t :: ds) b) else .stk
      | none => .stk
    | none => .stk) = _
  simp only [ha, Out.bind_ok]
  show (if 1 = 1 then noX (mf (fD t :: ds) b) else .stk) = _
  rw [if_pos rfl]
end
end Q0

set_option Elab.async false
set_option linter.all false
set_option maxRecDepth 100000
set_option maxHeartbeats 4000000
/-! QA: sets and conditions drawn. -/
namespace DL
open PySem
theorem ev_lst {a : MA} {ρ : Sl} {bx b ds : List D} (h : a ρ bx = .ok ds b) (hl : ds.length ≤ sizeLine := by simp only [List.length_cons, List.length_nil]; decide) : mLst a ρ bx = .ok (.new (.lst ds)) b := by
  unfold mLst; rw [h]; simp only [Out.bind_ok]; rw [if_pos hl]
theorem ev_par2 {i j : Nat} {a : MA} {ρ : Sl} {bx b : List D} {x y : D} (h : a ρ bx = .ok [x, y] b) : mPar2 i j a ρ bx = .nx ((ρ.set i (some x)).set j (some y)) b := by
  unfold mPar2; rw [h]; rfl
theorem ev_ret' {m : ME} {ρ : Sl} {bx b : List D} {r : R} (h : m ρ bx = .ok r b) : mRet m ρ bx = .rt r b := ev_ret h
theorem ev_binR {g : D → D → List D → Out R} {m m' : ME} {ρ : Sl} {bx b b' : List D} {r r' : R} {x y : D} (h : m ρ bx = .ok r b) (hx : r.d = x) (h' : m' ρ b = .ok r' b') (hy : r'.d = y) : mBin g m m' ρ bx = g x y b' := by
  rw [ev_bin h h', hx, hy]
theorem ev_tup3 {m1 m2 m3 : ME} {ρ : Sl} {bx b1 b2 b3 : List D} {r1 r2 r3 : R} (h1 : m1 ρ bx = .ok r1 b1) (h2 : m2 ρ b1 = .ok r2 b2) (h3 : m3 ρ b2 = .ok r3 b3) : mTup (aCons m1 (aCons m2 (aCons m3 aNil))) ρ bx = .ok (.val (.tup [r1.d, r2.d, r3.d])) b3 := by
  unfold mTup
  rw [ev_cons h1 (ev_cons h2 (ev_cons h3 ev_nil))]
  rfl
theorem ev_tup2 {m1 m2 : ME} {ρ : Sl} {bx b1 b2 : List D} {r1 r2 : R} (h1 : m1 ρ bx = .ok r1 b1) (h2 : m2 ρ b1 = .ok r2 b2) : mTup (aCons m1 (aCons m2 aNil)) ρ bx = .ok (.val (.tup [r1.d, r2.d])) b2 := by
  unfold mTup
  rw [ev_cons h1 (ev_cons h2 ev_nil)]
  rfl
end DL
namespace Q0
open PySem DL
abbrev Cr (rest : List D) : Prop := ∀ p : Pn, Cb (pD p :: rest)
theorem full_c : Canon [(none, none)] := ⟨fun s hs => (by rw [List.mem_singleton.mp hs]; intro l h e; cases e), List.pairwise_singleton _ _⟩
theorem full_St : St 1 [(none, none)] := ⟨full_c, by simp⟩
theorem full_mem (i : Int) : mem [(none, none)] i := (mem_one _ _).mpr ⟨fun l h => (by cases h), fun l h => (by cases h)⟩
theorem nil_St : St 0 [] := ⟨⟨fun s h => by simp at h, List.Pairwise.nil⟩, by simp⟩
theorem empty_of {c : List Stretch} (h : Canon c) (h' : ∀ i, ¬ mem c i) : c = [] := by
  cases c with
  | nil => rfl
  | cons s r => exact absurd ((mem_cons _ _ _).mpr (.inl (aNum_in s (h.ok s (List.mem_cons_self ..))))) (h' (aNum s))
theorem hasB_of {a : List Stretch} {i : Int} {k : Bool} (h : mem a i ↔ k = true) : hasB a i = k := by
  have := hasB_iff a i
  cases q : hasB a i <;> cases k <;> simp_all
section
variable {CA : Ly} {p : Pn} {k : Int} {rest : List D}
theorem e_full (CA : Ly) {ρ : Sl} {bx : List D} (hb : Cb bx) : mCM (CA 0) (r_Ranges_full CA) (mC (.adr (CA 0))) aNil ρ bx = .ok (.new (rD [(none, none)])) bx := (ev_CM ev_nil).trans (o_full CA hb)
theorem e_empty (CA : Ly) {ρ : Sl} {bx : List D} (hb : Cb bx) : mCM (CA 0) (r_Ranges_empty CA) (mC (.adr (CA 0))) aNil ρ bx = .ok (.new (rD [])) bx := (ev_CM ev_nil).trans (o_empty CA hb)
theorem ranges_ok (CA : Ly) (hp : PO p k) (hk : k < 999000) (hr : Cr rest) : ∃ (r : R) (a : List Stretch) (p' : Pn), r__law_ranges CA [.box 0] (pD p :: rest) = .ok r (pD p' :: rest) ∧ r.d = rD a ∧ St 4 a ∧ PO p' (k + 3) := by
  have hd := Drw_a CA
  obtain ⟨l0, p1, e1, a1, a2, h1⟩ := ev_draw hd (ρ := [some (.box 0), none, none]) (rest := rest) (m := mC (.int 9)) rfl rfl hp (by omega) (by decide) (by decide)
  have s1 := ev_asg (i := 1) (ev_subI (j := 4) (m' := mC (.int 4)) e1 rfl)
  obtain ⟨pick, p2, e2, b1, b2, h2⟩ := ev_draw hd (ρ := [some (.box 0), some (.int (l0 - 4)), none]) (rest := rest) (m := mC (.int 7)) rfl rfl h1 (by omega) (by decide) (by decide)
  have s2 := ev_asg (i := 2) e2
  obtain ⟨low, hlow⟩ : ∃ low : Int, low = l0 - 4 := ⟨_, rfl⟩
  rw [← hlow] at s1 s2
  have fin : ∀ (r : R) (a : List Stretch) (p' : Pn), m__law_ranges CA [some (.box 0), none, none] (pD p :: rest) = .rt r (pD p' :: rest) → r.d = rD a → St 4 a → PO p' (k + 3) → ∃ (r : R) (a : List Stretch) (p' : Pn), r__law_ranges CA [.box 0] (pD p :: rest) = .ok r (pD p' :: rest) ∧ r.d = rD a ∧ St 4 a ∧ PO p' (k + 3) := fun r a p' e h3 h4 h5 => ⟨r, a, p', run_rt e, h3, h4, h5⟩
  have t : ∀ j : Int, mTest (mBin eqD (mVar 2) (mC (.int j))) [some (.box 0), some (.int low), some (.int pick)] (pD p2 :: rest) = .ok (pick == j) (pD p2 :: rest) := fun j => rfl
  have tn : ∀ j : Int, pick ≠ j → mTest (mBin eqD (mVar 2) (mC (.int j))) [some (.box 0), some (.int low), some (.int pick)] (pD p2 :: rest) = .ok false (pD p2 :: rest) := fun j h => by rw [t, show (pick == j) = false from beq_eq_false_iff_ne.mpr h]
  have ty : ∀ j : Int, pick = j → mTest (mBin eqD (mVar 2) (mC (.int j))) [some (.box 0), some (.int low), some (.int pick)] (pD p2 :: rest) = .ok true (pD p2 :: rest) := fun j h => by rw [t, h]; simp
  have hb2 := hr p2
  by_cases c0 : pick = 0
  · obtain ⟨r3, p3, e3, d1, d2, h3⟩ := ev_draw hd (ρ := [some (.box 0), some (.int low), some (.int pick)]) (rest := rest) (m := mC (.int 3)) rfl rfl h2 (by omega) (by decide) (by decide)
    obtain ⟨a, e4, q1, q2⟩ := o_of CA [low, low + 1 + r3, low + 5] (n := 3) (by simp) (by omega) (hr p3)
    refine fin (.new (rD a)) a p3 ?_ rfl (q1.mono (by omega)) (h3.mono (by omega))
    unfold m__law_ranges
    refine (ev_seq s1).trans ((ev_seq s2).trans (ev_seqR ?_))
    refine (ev_ifT (ty 0 c0)).trans (ev_ret ?_)
    exact (ev_CM (ev_cons (r := .val (.int low)) (b := pD p2 :: rest) rfl (ev_cons (ev_addI (ev_addI (i := low) (j := 1) (b := pD p2 :: rest) rfl rfl) e3) (ev_cons (r := .val (.int (low + 5))) (b := pD p3 :: rest) rfl ev_nil)))).trans e4
  by_cases c1 : pick = 1
  · obtain ⟨a, e4, q1, q2⟩ := o_between CA none (some low) hb2
    refine fin (.new (rD a)) a p2 ?_ rfl (q1.mono (by omega)) (h2.mono (by omega))
    unfold m__law_ranges
    refine (ev_seq s1).trans ((ev_seq s2).trans ((ev_seq (ev_no (tn 0 c0))).trans (ev_seqR ?_)))
    refine (ev_ifT (ty 1 c1)).trans (ev_ret ?_)
    exact (ev_CM (ev_cons (r := .val (oD none)) (b := pD p2 :: rest) rfl (ev_cons (r := .val (oD (some low))) (b := pD p2 :: rest) rfl ev_nil))).trans e4
  by_cases c2 : pick = 2
  · obtain ⟨a, e4, q1, q2⟩ := o_between CA (some low) none hb2
    refine fin (.new (rD a)) a p2 ?_ rfl (q1.mono (by omega)) (h2.mono (by omega))
    unfold m__law_ranges
    refine (ev_seq s1).trans ((ev_seq s2).trans ((ev_seq (ev_no (tn 0 c0))).trans ((ev_seq (ev_no (tn 1 c1))).trans (ev_seqR ?_))))
    refine (ev_ifT (ty 2 c2)).trans (ev_ret ?_)
    exact (ev_CM (ev_cons (r := .val (oD (some low))) (b := pD p2 :: rest) rfl (ev_cons (r := .val (oD none)) (b := pD p2 :: rest) rfl ev_nil))).trans e4
  by_cases c3 : pick = 3
  · obtain ⟨a, e4, q1, q2⟩ := o_of CA [low] (n := 1) (by simp) (by omega) hb2
    obtain ⟨c, e5, q3, q4⟩ := o_sub CA hb2 full_St q1 (by omega) (by omega)
    refine fin (.new (rD c)) c p2 ?_ rfl (q3.mono (by omega)) (h2.mono (by omega))
    unfold m__law_ranges
    refine (ev_seq s1).trans ((ev_seq s2).trans ((ev_seq (ev_no (tn 0 c0))).trans ((ev_seq (ev_no (tn 1 c1))).trans ((ev_seq (ev_no (tn 2 c2))).trans (ev_seqR ?_)))))
    refine (ev_ifT (ty 3 c3)).trans (ev_ret ?_)
    exact (ev_bin (e_full CA hb2) ((ev_CM (ev_cons (r := .val (.int low)) (b := pD p2 :: rest) rfl ev_nil)).trans e4)).trans e5
  by_cases c4 : pick = 4
  · obtain ⟨r3, p3, e3, d1, d2, h3⟩ := ev_draw hd (ρ := [some (.box 0), some (.int low), some (.int pick)]) (rest := rest) (m := mC (.int 2)) rfl rfl h2 (by omega) (by decide) (by decide)
    have el : mLst (aCons (mCM (CA 0) (r_Ranges_empty CA) (mC (.adr (CA 0))) aNil) (aCons (mCM (CA 0) (r_Ranges_full CA) (mC (.adr (CA 0))) aNil) aNil)) [some (.box 0), some (.int low), some (.int pick)] (pD p2 :: rest) = .ok (.new (.lst [rD [], rD [(none, none)]])) (pD p2 :: rest) :=
      ev_lst (ev_cons (e_empty CA hb2) (ev_cons (e_full CA hb2) ev_nil))
    have pre : ∀ (a : List Stretch), mBin ixD (mLst (aCons (mCM (CA 0) (r_Ranges_empty CA) (mC (.adr (CA 0))) aNil) (aCons (mCM (CA 0) (r_Ranges_full CA) (mC (.adr (CA 0))) aNil) aNil))) (mF (r__law_draw CA) (aCons (mVar 0) (aCons (mC (.int 2)) aNil))) [some (.box 0), some (.int low), some (.int pick)] (pD p2 :: rest) = .ok (.val (rD a)) (pD p3 :: rest) → m__law_ranges CA [some (.box 0), none, none] (pD p :: rest) = .rt (.val (rD a)) (pD p3 :: rest) := fun a e => by
      unfold m__law_ranges
      refine (ev_seq s1).trans ((ev_seq s2).trans ((ev_seq (ev_no (tn 0 c0))).trans ((ev_seq (ev_no (tn 1 c1))).trans ((ev_seq (ev_no (tn 2 c2))).trans ((ev_seq (ev_no (tn 3 c3))).trans (ev_seqR ?_))))))
      exact (ev_ifT (ty 4 c4)).trans (ev_ret e)
    rcases (show r3 = 0 ∨ r3 = 1 by omega) with rfl | rfl
    · exact fin _ [] p3 (pre [] ((ev_bin el e3).trans rfl)) rfl (nil_St.mono (by omega)) (h3.mono (by omega))
    · exact fin _ [(none, none)] p3 (pre _ ((ev_bin el e3).trans rfl)) rfl (full_St.mono (by omega)) (h3.mono (by omega))
  by_cases c5 : pick = 5
  · obtain ⟨r3, p3, e3, d1, d2, h3⟩ := ev_draw hd (ρ := [some (.box 0), some (.int low), some (.int pick)]) (rest := rest) (m := mC (.int 4)) rfl rfl h2 (by omega) (by decide) (by decide)
    obtain ⟨a, e4, q1, q2⟩ := o_between CA (some low) (some (low + r3)) (hr p3)
    obtain ⟨b, e5, q3, q4⟩ := o_of CA [999999999999] (n := 1) (by simp) (by omega) (hr p3)
    obtain ⟨c, e6, q5, q6⟩ := o_or CA (hr p3) q1 q3 (by omega)
    refine fin (.new (rD c)) c p3 ?_ rfl (q5.mono (by omega)) (h3.mono (by omega))
    unfold m__law_ranges
    refine (ev_seq s1).trans ((ev_seq s2).trans ((ev_seq (ev_no (tn 0 c0))).trans ((ev_seq (ev_no (tn 1 c1))).trans ((ev_seq (ev_no (tn 2 c2))).trans ((ev_seq (ev_no (tn 3 c3))).trans ((ev_seq (ev_no (tn 4 c4))).trans (ev_seqR ?_)))))))
    refine (ev_ifT (ty 5 c5)).trans (ev_ret ?_)
    have x1 : mBin addI (mVar 1) (mF (r__law_draw CA) (aCons (mVar 0) (aCons (mC (.int 4)) aNil))) [some (.box 0), some (.int low), some (.int pick)] (pD p2 :: rest) = .ok (.val (.int (low + r3))) (pD p3 :: rest) := ev_addI (i := low) (b := pD p2 :: rest) rfl e3
    have x2 : mBin subI (mBin powI (mC (.int 10)) (mC (.int 12))) (mC (.int 1)) [some (.box 0), some (.int low), some (.int pick)] (pD p3 :: rest) = .ok (.val (.int 999999999999)) (pD p3 :: rest) := ev_subI (i := 1000000000000) (j := 1) (b := pD p3 :: rest) (ev_pow (a := 10) (b := 12) (by decide)) rfl
    exact (ev_bin ((ev_CM (ev_cons (r := .val (oD (some low))) (b := pD p2 :: rest) rfl (ev_cons x1 ev_nil))).trans e4) ((ev_CM (ev_cons x2 ev_nil)).trans e5)).trans e6
  · obtain ⟨r3, p3, e3, d1, d2, h3⟩ := ev_draw hd (ρ := [some (.box 0), some (.int low), some (.int pick)]) (rest := rest) (m := mC (.int 4)) rfl rfl h2 (by omega) (by decide) (by decide)
    obtain ⟨a, e4, q1, q2⟩ := o_between CA (some low) (some (low + r3)) (hr p3)
    refine fin (.new (rD a)) a p3 ?_ rfl (q1.mono (by omega)) (h3.mono (by omega))
    unfold m__law_ranges
    refine (ev_seq s1).trans ((ev_seq s2).trans ((ev_seq (ev_no (tn 0 c0))).trans ((ev_seq (ev_no (tn 1 c1))).trans ((ev_seq (ev_no (tn 2 c2))).trans ((ev_seq (ev_no (tn 3 c3))).trans ((ev_seq (ev_no (tn 4 c4))).trans ((ev_seq (ev_no (tn 5 c5))).trans (ev_ret ?_))))))))
    have x1 : mBin addI (mVar 1) (mF (r__law_draw CA) (aCons (mVar 0) (aCons (mC (.int 4)) aNil))) [some (.box 0), some (.int low), some (.int pick)] (pD p2 :: rest) = .ok (.val (.int (low + r3))) (pD p3 :: rest) := ev_addI (i := low) (b := pD p2 :: rest) rfl e3
    exact (ev_CM (ev_cons (r := .val (oD (some low))) (b := pD p2 :: rest) rfl (ev_cons x1 ev_nil))).trans e4
theorem ranges_ok_b (CA : Ly) (hp : PO p k) (hk : k < 999000) (hr : Cr rest) : ∃ (r : R) (a : List Stretch) (p' : Pn), r__law_ranges_b CA [.box 0] (pD p :: rest) = .ok r (pD p' :: rest) ∧ r.d = rD a ∧ St 4 a ∧ PO p' (k + 3) := by
  have hd := Drw_b CA
  obtain ⟨l0, p1, e1, a1, a2, h1⟩ := ev_draw hd (ρ := [some (.box 0), none, none]) (rest := rest) (m := mC (.int 9)) rfl rfl hp (by omega) (by decide) (by decide)
  have s1 := ev_asg (i := 1) (ev_subI (j := 4) (m' := mC (.int 4)) e1 rfl)
  obtain ⟨pick, p2, e2, b1, b2, h2⟩ := ev_draw hd (ρ := [some (.box 0), some (.int (l0 - 4)), none]) (rest := rest) (m := mC (.int 7)) rfl rfl h1 (by omega) (by decide) (by decide)
  have s2 := ev_asg (i := 2) e2
  obtain ⟨low, hlow⟩ : ∃ low : Int, low = l0 - 4 := ⟨_, rfl⟩
  rw [← hlow] at s1 s2
  have fin : ∀ (r : R) (a : List Stretch) (p' : Pn), m__law_ranges_b CA [some (.box 0), none, none] (pD p :: rest) = .rt r (pD p' :: rest) → r.d = rD a → St 4 a → PO p' (k + 3) → ∃ (r : R) (a : List Stretch) (p' : Pn), r__law_ranges_b CA [.box 0] (pD p :: rest) = .ok r (pD p' :: rest) ∧ r.d = rD a ∧ St 4 a ∧ PO p' (k + 3) := fun r a p' e h3 h4 h5 => ⟨r, a, p', run_rt e, h3, h4, h5⟩
  have t : ∀ j : Int, mTest (mBin eqD (mVar 2) (mC (.int j))) [some (.box 0), some (.int low), some (.int pick)] (pD p2 :: rest) = .ok (pick == j) (pD p2 :: rest) := fun j => rfl
  have tn : ∀ j : Int, pick ≠ j → mTest (mBin eqD (mVar 2) (mC (.int j))) [some (.box 0), some (.int low), some (.int pick)] (pD p2 :: rest) = .ok false (pD p2 :: rest) := fun j h => by rw [t, show (pick == j) = false from beq_eq_false_iff_ne.mpr h]
  have ty : ∀ j : Int, pick = j → mTest (mBin eqD (mVar 2) (mC (.int j))) [some (.box 0), some (.int low), some (.int pick)] (pD p2 :: rest) = .ok true (pD p2 :: rest) := fun j h => by rw [t, h]; simp
  have hb2 := hr p2
  by_cases c0 : pick = 0
  · obtain ⟨r3, p3, e3, d1, d2, h3⟩ := ev_draw hd (ρ := [some (.box 0), some (.int low), some (.int pick)]) (rest := rest) (m := mC (.int 3)) rfl rfl h2 (by omega) (by decide) (by decide)
    obtain ⟨a, e4, q1, q2⟩ := o_of CA [low, low + 1 + r3, low + 5] (n := 3) (by simp) (by omega) (hr p3)
    refine fin (.new (rD a)) a p3 ?_ rfl (q1.mono (by omega)) (h3.mono (by omega))
    unfold m__law_ranges_b
    refine (ev_seq s1).trans ((ev_seq s2).trans (ev_seqR ?_))
    refine (ev_ifT (ty 0 c0)).trans (ev_ret ?_)
    exact (ev_CM (ev_cons (r := .val (.int low)) (b := pD p2 :: rest) rfl (ev_cons (ev_addI (ev_addI (i := low) (j := 1) (b := pD p2 :: rest) rfl rfl) e3) (ev_cons (r := .val (.int (low + 5))) (b := pD p3 :: rest) rfl ev_nil)))).trans e4
  by_cases c1 : pick = 1
  · obtain ⟨a, e4, q1, q2⟩ := o_between CA none (some low) hb2
    refine fin (.new (rD a)) a p2 ?_ rfl (q1.mono (by omega)) (h2.mono (by omega))
    unfold m__law_ranges_b
    refine (ev_seq s1).trans ((ev_seq s2).trans ((ev_seq (ev_no (tn 0 c0))).trans (ev_seqR ?_)))
    refine (ev_ifT (ty 1 c1)).trans (ev_ret ?_)
    exact (ev_CM (ev_cons (r := .val (oD none)) (b := pD p2 :: rest) rfl (ev_cons (r := .val (oD (some low))) (b := pD p2 :: rest) rfl ev_nil))).trans e4
  by_cases c2 : pick = 2
  · obtain ⟨a, e4, q1, q2⟩ := o_between CA (some low) none hb2
    refine fin (.new (rD a)) a p2 ?_ rfl (q1.mono (by omega)) (h2.mono (by omega))
    unfold m__law_ranges_b
    refine (ev_seq s1).trans ((ev_seq s2).trans ((ev_seq (ev_no (tn 0 c0))).trans ((ev_seq (ev_no (tn 1 c1))).trans (ev_seqR ?_))))
    refine (ev_ifT (ty 2 c2)).trans (ev_ret ?_)
    exact (ev_CM (ev_cons (r := .val (oD (some low))) (b := pD p2 :: rest) rfl (ev_cons (r := .val (oD none)) (b := pD p2 :: rest) rfl ev_nil))).trans e4
  by_cases c3 : pick = 3
  · obtain ⟨a, e4, q1, q2⟩ := o_of CA [low] (n := 1) (by simp) (by omega) hb2
    obtain ⟨c, e5, q3, q4⟩ := o_sub CA hb2 full_St q1 (by omega) (by omega)
    refine fin (.new (rD c)) c p2 ?_ rfl (q3.mono (by omega)) (h2.mono (by omega))
    unfold m__law_ranges_b
    refine (ev_seq s1).trans ((ev_seq s2).trans ((ev_seq (ev_no (tn 0 c0))).trans ((ev_seq (ev_no (tn 1 c1))).trans ((ev_seq (ev_no (tn 2 c2))).trans (ev_seqR ?_)))))
    refine (ev_ifT (ty 3 c3)).trans (ev_ret ?_)
    exact (ev_bin (e_full CA hb2) ((ev_CM (ev_cons (r := .val (.int low)) (b := pD p2 :: rest) rfl ev_nil)).trans e4)).trans e5
  by_cases c4 : pick = 4
  · obtain ⟨r3, p3, e3, d1, d2, h3⟩ := ev_draw hd (ρ := [some (.box 0), some (.int low), some (.int pick)]) (rest := rest) (m := mC (.int 2)) rfl rfl h2 (by omega) (by decide) (by decide)
    have el : mLst (aCons (mCM (CA 0) (r_Ranges_empty CA) (mC (.adr (CA 0))) aNil) (aCons (mCM (CA 0) (r_Ranges_full CA) (mC (.adr (CA 0))) aNil) aNil)) [some (.box 0), some (.int low), some (.int pick)] (pD p2 :: rest) = .ok (.new (.lst [rD [], rD [(none, none)]])) (pD p2 :: rest) :=
      ev_lst (ev_cons (e_empty CA hb2) (ev_cons (e_full CA hb2) ev_nil))
    have pre : ∀ (a : List Stretch), mBin ixD (mLst (aCons (mCM (CA 0) (r_Ranges_empty CA) (mC (.adr (CA 0))) aNil) (aCons (mCM (CA 0) (r_Ranges_full CA) (mC (.adr (CA 0))) aNil) aNil))) (mF (r__law_draw_b CA) (aCons (mVar 0) (aCons (mC (.int 2)) aNil))) [some (.box 0), some (.int low), some (.int pick)] (pD p2 :: rest) = .ok (.val (rD a)) (pD p3 :: rest) → m__law_ranges_b CA [some (.box 0), none, none] (pD p :: rest) = .rt (.val (rD a)) (pD p3 :: rest) := fun a e => by
      unfold m__law_ranges_b
      refine (ev_seq s1).trans ((ev_seq s2).trans ((ev_seq (ev_no (tn 0 c0))).trans ((ev_seq (ev_no (tn 1 c1))).trans ((ev_seq (ev_no (tn 2 c2))).trans ((ev_seq (ev_no (tn 3 c3))).trans (ev_seqR ?_))))))
      exact (ev_ifT (ty 4 c4)).trans (ev_ret e)
    rcases (show r3 = 0 ∨ r3 = 1 by omega) with rfl | rfl
    · exact fin _ [] p3 (pre [] ((ev_bin el e3).trans rfl)) rfl (nil_St.mono (by omega)) (h3.mono (by omega))
    · exact fin _ [(none, none)] p3 (pre _ ((ev_bin el e3).trans rfl)) rfl (full_St.mono (by omega)) (h3.mono (by omega))
  by_cases c5 : pick = 5
  · obtain ⟨r3, p3, e3, d1, d2, h3⟩ := ev_draw hd (ρ := [some (.box 0), some (.int low), some (.int pick)]) (rest := rest) (m := mC (.int 4)) rfl rfl h2 (by omega) (by decide) (by decide)
    obtain ⟨a, e4, q1, q2⟩ := o_between CA (some low) (some (low + r3)) (hr p3)
    obtain ⟨b, e5, q3, q4⟩ := o_of CA [999999999999] (n := 1) (by simp) (by omega) (hr p3)
    obtain ⟨c, e6, q5, q6⟩ := o_or CA (hr p3) q1 q3 (by omega)
    refine fin (.new (rD c)) c p3 ?_ rfl (q5.mono (by omega)) (h3.mono (by omega))
    unfold m__law_ranges_b
    refine (ev_seq s1).trans ((ev_seq s2).trans ((ev_seq (ev_no (tn 0 c0))).trans ((ev_seq (ev_no (tn 1 c1))).trans ((ev_seq (ev_no (tn 2 c2))).trans ((ev_seq (ev_no (tn 3 c3))).trans ((ev_seq (ev_no (tn 4 c4))).trans (ev_seqR ?_)))))))
    refine (ev_ifT (ty 5 c5)).trans (ev_ret ?_)
    have x1 : mBin addI (mVar 1) (mF (r__law_draw_b CA) (aCons (mVar 0) (aCons (mC (.int 4)) aNil))) [some (.box 0), some (.int low), some (.int pick)] (pD p2 :: rest) = .ok (.val (.int (low + r3))) (pD p3 :: rest) := ev_addI (i := low) (b := pD p2 :: rest) rfl e3
    have x2 : mBin subI (mBin powI (mC (.int 10)) (mC (.int 12))) (mC (.int 1)) [some (.box 0), some (.int low), some (.int pick)] (pD p3 :: rest) = .ok (.val (.int 999999999999)) (pD p3 :: rest) := ev_subI (i := 1000000000000) (j := 1) (b := pD p3 :: rest) (ev_pow (a := 10) (b := 12) (by decide)) rfl
    exact (ev_bin ((ev_CM (ev_cons (r := .val (oD (some low))) (b := pD p2 :: rest) rfl (ev_cons x1 ev_nil))).trans e4) ((ev_CM (ev_cons x2 ev_nil)).trans e5)).trans e6
  · obtain ⟨r3, p3, e3, d1, d2, h3⟩ := ev_draw hd (ρ := [some (.box 0), some (.int low), some (.int pick)]) (rest := rest) (m := mC (.int 4)) rfl rfl h2 (by omega) (by decide) (by decide)
    obtain ⟨a, e4, q1, q2⟩ := o_between CA (some low) (some (low + r3)) (hr p3)
    refine fin (.new (rD a)) a p3 ?_ rfl (q1.mono (by omega)) (h3.mono (by omega))
    unfold m__law_ranges_b
    refine (ev_seq s1).trans ((ev_seq s2).trans ((ev_seq (ev_no (tn 0 c0))).trans ((ev_seq (ev_no (tn 1 c1))).trans ((ev_seq (ev_no (tn 2 c2))).trans ((ev_seq (ev_no (tn 3 c3))).trans ((ev_seq (ev_no (tn 4 c4))).trans ((ev_seq (ev_no (tn 5 c5))).trans (ev_ret ?_))))))))
    have x1 : mBin addI (mVar 1) (mF (r__law_draw_b CA) (aCons (mVar 0) (aCons (mC (.int 4)) aNil))) [some (.box 0), some (.int low), some (.int pick)] (pD p2 :: rest) = .ok (.val (.int (low + r3))) (pD p3 :: rest) := ev_addI (i := low) (b := pD p2 :: rest) rfl e3
    exact (ev_CM (ev_cons (r := .val (oD (some low))) (b := pD p2 :: rest) rfl (ev_cons x1 ev_nil))).trans e4
/-! ### conditions -/
def Tr.lv : Tr → Nat
  | .and a b => a.lv + b.lv
  | .or a b => a.lv + b.lv
  | .no a => a.lv
  | _ => 1
def Tr.cn : Tr → Prop
  | .win _ st => St 4 st
  | .and a b => a.cn ∧ b.cn
  | .or a b => a.cn ∧ b.cn
  | .no a => a.cn
  | _ => True
theorem cols_lv : ∀ t : Tr, t.cols.length ≤ t.lv
  | .win _ _ => Nat.le_refl _
  | .miss _ => Nat.le_refl _
  | .alw => Nat.zero_le _
  | .nev => Nat.zero_le _
  | .and a b => by have := cols_lv a; have := cols_lv b; simp only [Tr.cols, Tr.lv, List.length_append]; omega
  | .or a b => by have := cols_lv a; have := cols_lv b; simp only [Tr.cols, Tr.lv, List.length_append]; omega
  | .no a => cols_lv a
theorem cn_ok : ∀ t : Tr, t.cn → t.ok
  | .win _ st, h => Nat.le_trans h.l (by decide)
  | .miss _, _ => trivial
  | .alw, _ => trivial
  | .nev, _ => trivial
  | .and a b, h => ⟨cn_ok a h.1, cn_ok b h.2⟩
  | .or a b, h => ⟨cn_ok a h.1, cn_ok b h.2⟩
  | .no a, h => cn_ok a h
/-- a tree at most so deep, of so many conditions, over such columns -/
structure TV (P : Str → Prop) (d n : Nat) (t : Tr) : Prop where
  deep : t.deep ≤ d
  lv : t.lv ≤ n
  cols : ∀ c ∈ t.cols, P c
  cn : t.cn
theorem TV.mono {P : Str → Prop} {d n d' n' : Nat} {t : Tr} (h : TV P d n t) (hd : d ≤ d') (hn : n ≤ n') : TV P d' n' t := ⟨Nat.le_trans h.deep hd, Nat.le_trans h.lv hn, h.cols, h.cn⟩
theorem TV.imp {P P' : Str → Prop} {d n : Nat} {t : Tr} (h : TV P d n t) (hP : ∀ c, P c → P' c) : TV P' d n t := ⟨h.deep, h.lv, fun c hc => hP c (h.cols c hc), h.cn⟩
theorem TV.and {P : Str → Prop} {d n m : Nat} {t u : Tr} (h : TV P d n t) (h' : TV P d m u) : TV P (d + 1) (n + m) (.and t u) :=
  ⟨by have := h.deep; have := h'.deep; simp only [Tr.deep]; omega, by have := h.lv; have := h'.lv; simp only [Tr.lv]; omega, fun c hc => (List.mem_append.mp hc).elim (h.cols c) (h'.cols c), h.cn, h'.cn⟩
theorem TV.or {P : Str → Prop} {d n m : Nat} {t u : Tr} (h : TV P d n t) (h' : TV P d m u) : TV P (d + 1) (n + m) (.or t u) :=
  ⟨by have := h.deep; have := h'.deep; simp only [Tr.deep]; omega, by have := h.lv; have := h'.lv; simp only [Tr.lv]; omega, fun c hc => (List.mem_append.mp hc).elim (h.cols c) (h'.cols c), h.cn, h'.cn⟩
theorem TV.no {P : Str → Prop} {d n : Nat} {t : Tr} (h : TV P d n t) : TV P (d + 1) n (.no t) := ⟨by have := h.deep; simp only [Tr.deep]; omega, h.lv, h.cols, h.cn⟩
theorem TV.fw {P : Str → Prop} {d n : Nat} {t : Tr} (h : TV P d n t) (hd : d ≤ 24) (hn : n ≤ 62) : Fw 24 62 t := ⟨Nat.le_trans h.deep hd, Nat.le_trans (cols_lv t) (Nat.le_trans h.lv hn), cn_ok t h.cn⟩
theorem ix_lst {ds : List D} {i : Int} {d : D} {bx : List D} (h : L2.atI ds i = some d) : ixD (.lst ds) (.int i) bx = .ok (.val d) bx := by
  show (match L2.atI ds i with | some d => OK d bx | none => .stk) = _
  rw [h]
theorem ix_box {ds : List D} {i : Int} {n : Nat} {d : D} {bx : List D} (hb : bx[n]? = some (.lst ds)) (h : L2.atI ds i = some d) : ixD (.box n) (.int i) bx = .ok (.val d) bx := by
  have e : D.sL bx (.box n) = some ds := by
    show (match bx[n]? with | some (.lst ds) => some ds | _ => none) = _
    rw [hb]
  show (match D.sL bx (.box n) with | some ds => (match L2.atI ds i with | some d => OK d bx | none => .stk) | none => _) = _
  rw [e]
  simp only [h]
theorem atI_map {α : Type} (f : α → D) {xs : List α} {i : Int} (h0 : 0 ≤ i) (h1 : i < xs.length) : ∃ x, xs[i.toNat]? = some x ∧ L2.atI (xs.map f) i = some (f x) ∧ x ∈ xs := by
  have h2 : i.toNat < xs.length := by omega
  refine ⟨xs[i.toNat], by simp [h2], ?_, List.getElem_mem _⟩
  unfold L2.atI L2.ixN
  rw [if_pos h0, List.length_map, if_pos h1]
  simp [h2]
theorem leaf_ok (CA : Ly) (hp : PO p k) (hk : k < 990000) (hr : Cr rest) {cs : List Str} (hc : cs ≠ []) (hl : cs.length ≤ 1000) :
    ∃ (r : R) (t : Tr) (p' : Pn), r__law_leaf CA [.box 0, .lst (cs.map .str)] (pD p :: rest) = .ok r (pD p' :: rest) ∧ r.d = tD t ∧ (∀ j, r.d ≠ .box j) ∧ TV (· ∈ cs) 1 1 t ∧ PO p' (k + 6) := by
  have hd := Drw_a CA
  have hpos : 0 < cs.length := List.length_pos_iff.mpr hc
  have el : ∀ q : Pn, mCB (un1 lenD) (aCons (mVar 1) aNil) [some (.box 0), some (.lst (cs.map .str)), none, none] (pD q :: rest) = .ok (.val (.int cs.length)) (pD q :: rest) := fun q => by
    rw [ev_CB (ev_cons (r := .val (.lst (cs.map .str))) (b := pD q :: rest) rfl ev_nil)]
    show OK (.int ((cs.map D.str).length : Nat)) _ = _
    rw [List.length_map]
  obtain ⟨i, p1, e1, a1, a2, h1⟩ := ev_draw hd (rest := rest) (m := mCB (un1 lenD) (aCons (mVar 1) aNil)) (ρ := [some (.box 0), some (.lst (cs.map .str)), none, none]) rfl (el p) hp (by omega) (by omega) (by omega)
  obtain ⟨c, _, e2, hcm⟩ := atI_map D.str (xs := cs) a1 a2
  have x1 : mBin ixD (mVar 1) (mF (r__law_draw CA) (aCons (mVar 0) (aCons (mCB (un1 lenD) (aCons (mVar 1) aNil)) aNil))) [some (.box 0), some (.lst (cs.map .str)), none, none] (pD p :: rest) = .ok (.val (.str c)) (pD p1 :: rest) := (ev_bin (r := .val (.lst (cs.map .str))) (b := pD p :: rest) rfl e1).trans (ix_lst e2)
  have s1 := ev_asg (i := 2) x1
  obtain ⟨pick, p2, e3, b1, b2, h2⟩ := ev_draw hd (ρ := [some (.box 0), some (.lst (cs.map .str)), some (.str c), none]) (rest := rest) (m := mC (.int 8)) rfl rfl h1 (by omega) (by decide) (by decide)
  have s2 := ev_asg (i := 3) e3
  have tn : ∀ j : Int, pick ≠ j → mTest (mBin eqD (mVar 3) (mC (.int j))) [some (.box 0), some (.lst (cs.map .str)), some (.str c), some (.int pick)] (pD p2 :: rest) = .ok false (pD p2 :: rest) := fun j h => by
    show Out.ok (pick == j) _ = _
    rw [show (pick == j) = false from beq_eq_false_iff_ne.mpr h]
  have ty : ∀ j : Int, pick = j → mTest (mBin eqD (mVar 3) (mC (.int j))) [some (.box 0), some (.lst (cs.map .str)), some (.str c), some (.int pick)] (pD p2 :: rest) = .ok true (pD p2 :: rest) := fun j h => by
    show Out.ok (pick == j) _ = _
    rw [h]; simp
  have fin : ∀ (r : R) (t : Tr) (p' : Pn), m__law_leaf CA [some (.box 0), some (.lst (cs.map .str)), none, none] (pD p :: rest) = .rt r (pD p' :: rest) → r.d = tD t → TV (· ∈ cs) 1 1 t → PO p' (k + 6) →
      ∃ (r : R) (t : Tr) (p' : Pn), r__law_leaf CA [.box 0, .lst (cs.map .str)] (pD p :: rest) = .ok r (pD p' :: rest) ∧ r.d = tD t ∧ (∀ j, r.d ≠ .box j) ∧ TV (· ∈ cs) 1 1 t ∧ PO p' (k + 6) :=
    fun r t p' e h3 h4 h5 => ⟨r, t, p', run_rt e, h3, fun j z => (by rw [h3] at z; cases t <;> cases z), h4, h5⟩
  by_cases c0 : pick = 0
  · refine fin (.val (tD (.miss c))) (.miss c) p2 ?_ rfl ⟨Nat.le_refl _, Nat.le_refl _, fun x hx => by rw [List.mem_singleton.mp hx]; exact hcm, trivial⟩ (h2.mono (by omega))
    unfold m__law_leaf
    refine (ev_seq s1).trans ((ev_seq s2).trans (ev_seqR ?_))
    exact (ev_ifT (ty 0 c0)).trans rfl
  by_cases c1 : pick = 1
  · obtain ⟨z, p3, e5, d1, d2, h3⟩ := ev_draw hd (ρ := [some (.box 0), some (.lst (cs.map .str)), some (.str c), some (.int pick)]) (rest := rest) (m := mC (.int 2)) rfl rfl h2 (by omega) (by decide) (by decide)
    have pre : ∀ t : Tr, ixD (.lst [tD .alw, tD .nev]) (.int z) (pD p3 :: rest) = .ok (.val (tD t)) (pD p3 :: rest) → m__law_leaf CA [some (.box 0), some (.lst (cs.map .str)), none, none] (pD p :: rest) = .rt (.val (tD t)) (pD p3 :: rest) := fun t e => by
      unfold m__law_leaf
      refine (ev_seq s1).trans ((ev_seq s2).trans ((ev_seq (ev_no (tn 0 c0))).trans (ev_seqR ?_)))
      refine (ev_ifT (ty 1 c1)).trans (ev_ret ?_)
      exact (ev_bin (r := .new (.lst [tD .alw, tD .nev])) (b := pD p2 :: rest) rfl e5).trans e
    rcases (show z = 0 ∨ z = 1 by omega) with rfl | rfl
    · exact fin _ .alw p3 (pre _ rfl) rfl ⟨Nat.le_refl _, Nat.le_refl _, fun x hx => by simp [Tr.cols] at hx, trivial⟩ (h3.mono (by omega))
    · exact fin _ .nev p3 (pre _ rfl) rfl ⟨Nat.le_refl _, Nat.le_refl _, fun x hx => by simp [Tr.cols] at hx, trivial⟩ (h3.mono (by omega))
  · obtain ⟨r, a, p3, e5, q1, q2, h3⟩ := ranges_ok CA h2 (by omega) hr
    refine fin (.val (tD (.win c a))) (.win c a) p3 ?_ rfl ⟨Nat.le_refl _, Nat.le_refl _, fun x hx => by rw [List.mem_singleton.mp hx]; exact hcm, q2⟩ (h3.mono (by omega))
    unfold m__law_leaf
    refine (ev_seq s1).trans ((ev_seq s2).trans ((ev_seq (ev_no (tn 0 c0))).trans ((ev_seq (ev_no (tn 1 c1))).trans (ev_ret ?_))))
    have e6 : mUn (fldD "parts" [0]) (mF (r__law_ranges CA) (aCons (mVar 0) aNil)) [some (.box 0), some (.lst (cs.map .str)), some (.str c), some (.int pick)] (pD p2 :: rest) = .ok (.val (.tup (a.map sD))) (pD p3 :: rest) := by
      rw [ev_un ((ev_F (ev_cons (r := .val (.box 0)) (b := pD p2 :: rest) rfl ev_nil)).trans e5), q1, fld_r]
    exact ev_tup3 (r1 := .val (.str "within")) (r2 := .val (.str c)) (b1 := pD p2 :: rest) (b2 := pD p2 :: rest) rfl rfl e6
theorem leaf_ok_b (CA : Ly) (hp : PO p k) (hk : k < 990000) (hr : Cr rest) {cs : List Str} (hc : cs ≠ []) (hl : cs.length ≤ 1000) :
    ∃ (r : R) (t : Tr) (p' : Pn), r__law_leaf_b CA [.box 0, .lst (cs.map .str)] (pD p :: rest) = .ok r (pD p' :: rest) ∧ r.d = tD t ∧ (∀ j, r.d ≠ .box j) ∧ TV (· ∈ cs) 1 1 t ∧ PO p' (k + 6) := by
  have hd := Drw_b CA
  have hpos : 0 < cs.length := List.length_pos_iff.mpr hc
  have el : ∀ q : Pn, mCB (un1 lenD) (aCons (mVar 1) aNil) [some (.box 0), some (.lst (cs.map .str)), none, none] (pD q :: rest) = .ok (.val (.int cs.length)) (pD q :: rest) := fun q => by
    rw [ev_CB (ev_cons (r := .val (.lst (cs.map .str))) (b := pD q :: rest) rfl ev_nil)]
    show OK (.int ((cs.map D.str).length : Nat)) _ = _
    rw [List.length_map]
  obtain ⟨i, p1, e1, a1, a2, h1⟩ := ev_draw hd (rest := rest) (m := mCB (un1 lenD) (aCons (mVar 1) aNil)) (ρ := [some (.box 0), some (.lst (cs.map .str)), none, none]) rfl (el p) hp (by omega) (by omega) (by omega)
  obtain ⟨c, _, e2, hcm⟩ := atI_map D.str (xs := cs) a1 a2
  have x1 : mBin ixD (mVar 1) (mF (r__law_draw_b CA) (aCons (mVar 0) (aCons (mCB (un1 lenD) (aCons (mVar 1) aNil)) aNil))) [some (.box 0), some (.lst (cs.map .str)), none, none] (pD p :: rest) = .ok (.val (.str c)) (pD p1 :: rest) := (ev_bin (r := .val (.lst (cs.map .str))) (b := pD p :: rest) rfl e1).trans (ix_lst e2)
  have s1 := ev_asg (i := 2) x1
  obtain ⟨pick, p2, e3, b1, b2, h2⟩ := ev_draw hd (ρ := [some (.box 0), some (.lst (cs.map .str)), some (.str c), none]) (rest := rest) (m := mC (.int 8)) rfl rfl h1 (by omega) (by decide) (by decide)
  have s2 := ev_asg (i := 3) e3
  have tn : ∀ j : Int, pick ≠ j → mTest (mBin eqD (mVar 3) (mC (.int j))) [some (.box 0), some (.lst (cs.map .str)), some (.str c), some (.int pick)] (pD p2 :: rest) = .ok false (pD p2 :: rest) := fun j h => by
    show Out.ok (pick == j) _ = _
    rw [show (pick == j) = false from beq_eq_false_iff_ne.mpr h]
  have ty : ∀ j : Int, pick = j → mTest (mBin eqD (mVar 3) (mC (.int j))) [some (.box 0), some (.lst (cs.map .str)), some (.str c), some (.int pick)] (pD p2 :: rest) = .ok true (pD p2 :: rest) := fun j h => by
    show Out.ok (pick == j) _ = _
    rw [h]; simp
  have fin : ∀ (r : R) (t : Tr) (p' : Pn), m__law_leaf_b CA [some (.box 0), some (.lst (cs.map .str)), none, none] (pD p :: rest) = .rt r (pD p' :: rest) → r.d = tD t → TV (· ∈ cs) 1 1 t → PO p' (k + 6) →
      ∃ (r : R) (t : Tr) (p' : Pn), r__law_leaf_b CA [.box 0, .lst (cs.map .str)] (pD p :: rest) = .ok r (pD p' :: rest) ∧ r.d = tD t ∧ (∀ j, r.d ≠ .box j) ∧ TV (· ∈ cs) 1 1 t ∧ PO p' (k + 6) :=
    fun r t p' e h3 h4 h5 => ⟨r, t, p', run_rt e, h3, fun j z => (by rw [h3] at z; cases t <;> cases z), h4, h5⟩
  by_cases c0 : pick = 0
  · refine fin (.val (tD (.miss c))) (.miss c) p2 ?_ rfl ⟨Nat.le_refl _, Nat.le_refl _, fun x hx => by rw [List.mem_singleton.mp hx]; exact hcm, trivial⟩ (h2.mono (by omega))
    unfold m__law_leaf_b
    refine (ev_seq s1).trans ((ev_seq s2).trans (ev_seqR ?_))
    exact (ev_ifT (ty 0 c0)).trans rfl
  by_cases c1 : pick = 1
  · obtain ⟨z, p3, e5, d1, d2, h3⟩ := ev_draw hd (ρ := [some (.box 0), some (.lst (cs.map .str)), some (.str c), some (.int pick)]) (rest := rest) (m := mC (.int 2)) rfl rfl h2 (by omega) (by decide) (by decide)
    have pre : ∀ t : Tr, ixD (.lst [tD .alw, tD .nev]) (.int z) (pD p3 :: rest) = .ok (.val (tD t)) (pD p3 :: rest) → m__law_leaf_b CA [some (.box 0), some (.lst (cs.map .str)), none, none] (pD p :: rest) = .rt (.val (tD t)) (pD p3 :: rest) := fun t e => by
      unfold m__law_leaf_b
      refine (ev_seq s1).trans ((ev_seq s2).trans ((ev_seq (ev_no (tn 0 c0))).trans (ev_seqR ?_)))
      refine (ev_ifT (ty 1 c1)).trans (ev_ret ?_)
      exact (ev_bin (r := .new (.lst [tD .alw, tD .nev])) (b := pD p2 :: rest) rfl e5).trans e
    rcases (show z = 0 ∨ z = 1 by omega) with rfl | rfl
    · exact fin _ .alw p3 (pre _ rfl) rfl ⟨Nat.le_refl _, Nat.le_refl _, fun x hx => by simp [Tr.cols] at hx, trivial⟩ (h3.mono (by omega))
    · exact fin _ .nev p3 (pre _ rfl) rfl ⟨Nat.le_refl _, Nat.le_refl _, fun x hx => by simp [Tr.cols] at hx, trivial⟩ (h3.mono (by omega))
  · obtain ⟨r, a, p3, e5, q1, q2, h3⟩ := ranges_ok_b CA h2 (by omega) hr
    refine fin (.val (tD (.win c a))) (.win c a) p3 ?_ rfl ⟨Nat.le_refl _, Nat.le_refl _, fun x hx => by rw [List.mem_singleton.mp hx]; exact hcm, q2⟩ (h3.mono (by omega))
    unfold m__law_leaf_b
    refine (ev_seq s1).trans ((ev_seq s2).trans ((ev_seq (ev_no (tn 0 c0))).trans ((ev_seq (ev_no (tn 1 c1))).trans (ev_ret ?_))))
    have e6 : mUn (fldD "parts" [0]) (mF (r__law_ranges_b CA) (aCons (mVar 0) aNil)) [some (.box 0), some (.lst (cs.map .str)), some (.str c), some (.int pick)] (pD p2 :: rest) = .ok (.val (.tup (a.map sD))) (pD p3 :: rest) := by
      rw [ev_un ((ev_F (ev_cons (r := .val (.box 0)) (b := pD p2 :: rest) rfl ev_nil)).trans e5), q1, fld_r]
    exact ev_tup3 (r1 := .val (.str "within")) (r2 := .val (.str c)) (b1 := pD p2 :: rest) (b2 := pD p2 :: rest) rfl rfl e6
end
end Q0

set_option Elab.async false
set_option linter.all false
set_option maxRecDepth 100000
set_option maxHeartbeats 4000000
/-! QB: the law's own functions of trees. -/
namespace Q0
open PySem DL
section
variable {CA : Ly} {bx : List D} {x : D}
theorem eqt {w w' : Str} {ρ : Sl} (h0 : mBin ixD (mVar 0) (mC (.int 0)) ρ bx = .ok (.val (.str w)) bx) (h1 : SeqAt.shaped (.str w) = true := by decide +kernel) (h2 : SeqAt.shaped (.str w') = true := by decide +kernel) :
    mBin eqD (mBin ixD (mVar 0) (mC (.int 0))) (mC (.str w')) ρ bx = .ok (.val (.bl (decide (w = w')))) bx :=
  (ev_bin h0 (r' := .val (.str w')) (b' := bx) rfl).trans (eq_ss w w' bx h1 h2)
theorem eqT {w w' : Str} {ρ : Sl} (h0 : mBin ixD (mVar 0) (mC (.int 0)) ρ bx = .ok (.val (.str w)) bx) (h1 : SeqAt.shaped (.str w) = true := by decide +kernel) (h2 : SeqAt.shaped (.str w') = true := by decide +kernel) :
    mTest (mBin eqD (mBin ixD (mVar 0) (mC (.int 0))) (mC (.str w'))) ρ bx = .ok (decide (w = w')) bx := ev_test (eqt h0 h1 h2)
/-! ### set_of -/
theorem so_loop (CA : Ly) (hb : Cb bx) : ∀ (ss : List Stretch) (a : List Stretch) (n : Nat) (o2 o3 : Option D), (∀ s ∈ ss, okS s) → St n a → n + ss.length ≤ 1000 →
    ∃ (c : List Stretch) (p2 p3 : Option D), loop (gTup [(gN 2), (gN 3)]) (mAsg (mBin (fun x y bx => noX (binC 0 (r_Ranges___or__ CA) x y bx)) (mVar 1) (mCM (CA 0) (r_Ranges_between CA) (mC (.adr (CA 0))) (aCons (mVar 2) (aCons (mVar 3) aNil)))) (gN 1)) (ss.map sD) [some x, some (rD a), o2, o3] bx = .nx [some x, some (rD c), p2, p3] bx ∧ St (n + ss.length) c ∧ ∀ k, mem c k ↔ mem a k ∨ mem ss k
  | [], a, n, o2, o3, _, ha, _ => ⟨a, o2, o3, rfl, ha, fun k => ⟨.inl, fun h => h.elim id fun z => (mem_nil k z).elim⟩⟩
  | s :: ss, a, n, o2, o3, hs, ha, hn => by
    simp only [List.length_cons] at hn ⊢
    obtain ⟨b, e1, q1, q2⟩ := o_between CA s.1 s.2 hb
    obtain ⟨c, e2, q3, q4⟩ := o_or CA hb ha q1 (by omega)
    obtain ⟨d, p2, p3, e3, q5, q6⟩ := so_loop CA hb ss c (n + 1) (some (oD s.1)) (some (oD s.2)) (fun t ht => hs t (List.mem_cons_of_mem _ ht)) q3 (by omega)
    refine ⟨d, p2, p3, ?_, by rw [show n + (ss.length + 1) = n + 1 + ss.length by omega]; exact q5, fun k => ?_⟩
    · rw [List.map_cons]
      refine (loop_nx (ρ1 := [some x, some (rD a), some (oD s.1), some (oD s.2)]) rfl ?_).trans e3
      refine (ev_asg (i := 1) (r := .new (rD c)) (b := bx) ?_).trans rfl
      exact (ev_bin (r := .val (rD a)) (b := bx) rfl ((ev_CM (ev_cons (r := .val (oD s.1)) (b := bx) rfl (ev_cons (r := .val (oD s.2)) (b := bx) rfl ev_nil))).trans e1)).trans e2
    · rw [q6, q4, q2, mem_cons]
      exact or_assoc
theorem so_ok (CA : Ly) (hb : Cb bx) {st : List Stretch} (h : St 4 st) : r__law_set_of CA [.tup (st.map sD)] bx = .ok (.val (rD st)) bx := by
  obtain ⟨c, p2, p3, e, q1, q2⟩ := so_loop (x := .tup (st.map sD)) CA hb st [] 0 none none h.c.ok nil_St (by have := h.l; omega)
  have ec : c = st := canon_unique c st q1.c h.c fun n => by rw [q2]; exact ⟨fun z => z.elim (fun y => (mem_nil n y).elim) id, .inr⟩
  subst ec
  refine run_rt ?_
  show m__law_set_of CA [some (.tup (c.map sD)), none, none, none] bx = _
  unfold m__law_set_of
  rw [ev_seq (ev_asg (i := 1) (e_empty CA hb))]
  have e2 : mFor (iSeq (mVar 0)) (gTup [(gN 2), (gN 3)]) (mAsg (mBin (fun x y bx => noX (binC 0 (r_Ranges___or__ CA) x y bx)) (mVar 1) (mCM (CA 0) (r_Ranges_between CA) (mC (.adr (CA 0))) (aCons (mVar 2) (aCons (mVar 3) aNil)))) (gN 1)) [some (.tup (c.map sD)), some (rD []), none, none] bx = .nx [some (.tup (c.map sD)), some (rD c), p2, p3] bx := (ev_for (ds := c.map sD) (b := bx) rfl).trans e
  rw [show ([some (.tup (c.map sD)), none, none, none] : Sl).set 1 (some (R.new (rD [])).d) = [some (.tup (c.map sD)), some (rD []), none, none] from rfl, ev_seq e2]
  rfl
/-! ### numbered -/
def numb : Option Bool → Int
  | some true => 2
  | none => 1
  | some false => 0
theorem numb_min (p q : Option Bool) : (if numb q < numb p then numb q else numb p) = numb (bothF p q false) := by
  rcases p with _ | _ | _ <;> rcases q with _ | _ | _ <;> decide
theorem numb_max (p q : Option Bool) : (if numb q > numb p then numb q else numb p) = numb (bothF p q true) := by
  rcases p with _ | _ | _ <;> rcases q with _ | _ | _ <;> decide
theorem ev_min {m m' : ME} {ρ : Sl} {b b' bx : List D} {i j : Int} (h : m ρ bx = .ok (.val (.int i)) b) (h' : m' ρ b = .ok (.val (.int j)) b') : mCB (un2 min2) (aCons m (aCons m' aNil)) ρ bx = .ok (.val (.int (if j < i then j else i))) b' := by
  rw [ev_CB (ev_cons h (ev_cons h' ev_nil))]; rfl
theorem ev_max {m m' : ME} {ρ : Sl} {b b' bx : List D} {i j : Int} (h : m ρ bx = .ok (.val (.int i)) b) (h' : m' ρ b = .ok (.val (.int j)) b') : mCB (un2 max2) (aCons m (aCons m' aNil)) ρ bx = .ok (.val (.int (if j > i then j else i))) b' := by
  rw [ev_CB (ev_cons h (ev_cons h' ev_nil))]; rfl
abbrev N5 (t x : D) (o2 o3 o4 : Option D) : Sl := [some t, some x, o2, o3, o4]
theorem num_ok (CA : Ly) {ρ : Str → Option Int} : ∀ (n : Nat) (t : Tr), t.deep ≤ n → t.ok → (∀ c ∈ t.cols, Look x bx ρ c) → r__law_numbered CA n [tD t, x] bx = .ok (.val (.int (numb (says ρ t)))) bx
  | 0, t, h, _, _ => by cases t <;> simp [Tr.deep] at h
  | n + 1, t, h, hok, hl => by
    refine (ar_ok rfl).trans ?_
    have fin : m__law_numbered CA (r__law_numbered CA n) (N5 (tD t) x none none none) bx = .rt (.val (.int (numb (says ρ t)))) bx → body 5 (m__law_numbered CA (r__law_numbered CA n)) [tD t, x] bx = .ok (.val (.int (numb (says ρ t)))) bx := fun e => body_rt e rfl
    refine fin ?_
    unfold m__law_numbered
    cases t with
    | win c st =>
      have h0 : mBin ixD (mVar 0) (mC (.int 0)) (N5 (tD (.win c st)) x none none none) bx = .ok (.val (.str "within")) bx := rfl
      rw [ev_seq (ev_no ((ev_orF ((eqT h0).trans rfl)).trans ((eqT h0).trans rfl))), ev_seq (ev_no ((eqT h0).trans rfl)), ev_seq (ev_no ((eqT h0).trans rfl)), ev_seq (ev_no ((eqT h0).trans rfl)), ev_seq (ev_no ((eqT h0).trans rfl))]
      have e1 : mBin dgD (mVar 1) (mBin ixD (mVar 0) (mC (.int 1))) (N5 (tD (.win c st)) x none none none) bx = .ok (.val (oD (ρ c))) bx :=
        (ev_bin (r := .val x) (r' := .val (.str c)) (b := bx) (b' := bx) rfl rfl).trans (hl c (List.mem_singleton.mpr rfl))
      rw [ev_seq (ev_asg (i := 2) e1)]
      simp only [says]
      cases q : ρ c with
      | none => rfl
      | some k =>
        show mSeq _ _ (N5 (tD (.win c st)) x (some (.int k)) none none) bx = _
        rw [ev_seq (ev_no (b := bx) rfl)]
        have step : ∀ s ∈ st, ∀ ρ' : Sl, (∃ o3 o4, ρ' = N5 (tD (.win c st)) x (some (.int k)) o3 o4) → ∃ ρ1, gTup [(gN 3), (gN 4)] (sD s) ρ' = some ρ1 ∧ (((!inB s k) = true ∧ ∃ ρ2, mIfS (mAnd (mOr (mTest (mUn isN (mVar 3))) (mTest (mBin leI (mVar 3) (mVar 2)))) (mOr (mTest (mUn isN (mVar 4))) (mTest (mBin leI (mVar 2) (mVar 4))))) (mRet (mC (.int 2))) mSkip ρ1 bx = .nx ρ2 bx ∧ (∃ o3 o4, ρ2 = N5 (tD (.win c st)) x (some (.int k)) o3 o4)) ∨ ((!inB s k) = false ∧ mIfS (mAnd (mOr (mTest (mUn isN (mVar 3))) (mTest (mBin leI (mVar 3) (mVar 2)))) (mOr (mTest (mUn isN (mVar 4))) (mTest (mBin leI (mVar 2) (mVar 4))))) (mRet (mC (.int 2))) mSkip ρ1 bx = .rt (.val (.int 2)) bx)) := by
          rintro s - ρ' ⟨o3, o4, rfl⟩
          refine ⟨N5 (tD (.win c st)) x (some (.int k)) (some (oD s.1)) (some (oD s.2)), rfl, ?_⟩
          have et : mAnd (mOr (mTest (mUn isN (mVar 3))) (mTest (mBin leI (mVar 3) (mVar 2)))) (mOr (mTest (mUn isN (mVar 4))) (mTest (mBin leI (mVar 2) (mVar 4)))) (N5 (tD (.win c st)) x (some (.int k)) (some (oD s.1)) (some (oD s.2))) bx = .ok (inB s k) bx := by
            obtain ⟨l, h⟩ := s
            have e1 : mOr (mTest (mUn isN (mVar 3))) (mTest (mBin leI (mVar 3) (mVar 2))) (N5 (tD (.win c st)) x (some (.int k)) (some (oD l)) (some (oD h))) bx = .ok (loB (l, h) k) bx := by cases l <;> rfl
            have e2 : mOr (mTest (mUn isN (mVar 4))) (mTest (mBin leI (mVar 2) (mVar 4))) (N5 (tD (.win c st)) x (some (.int k)) (some (oD l)) (some (oD h))) bx = .ok (hiB (l, h) k) bx := by cases h <;> rfl
            unfold inB
            cases q : loB (l, h) k with
            | true => rw [q] at e1; exact (ev_andT e1).trans e2
            | false => rw [q] at e1; exact ev_andF e1
          cases q : inB s k with
          | true => rw [q] at et; exact .inr ⟨rfl, (ev_ifT et).trans rfl⟩
          | false => rw [q] at et; exact .inl ⟨rfl, _, ev_no et, _, _, rfl⟩
        have hf : ∀ m, mFor (iSeq (mBin ixD (mVar 0) (mC (.int 2)))) (gTup [(gN 3), (gN 4)]) m (N5 (tD (.win c st)) x (some (.int k)) none none) bx = loop (gTup [(gN 3), (gN 4)]) m (st.map sD) (N5 (tD (.win c st)) x (some (.int k)) none none) bx := fun m => ev_for (ds := st.map sD) (b := bx) rfl
        rcases loop_find sD (fun s => !inB s k) (fun ρ' => ∃ o3 o4, ρ' = N5 (tD (.win c st)) x (some (.int k)) o3 o4) st step _ ⟨none, none, rfl⟩ with ⟨ha, ρ2, e3, _⟩ | ⟨ha, e3⟩
        · have hz : hasB st k = false := by
            unfold hasB
            rw [List.any_eq_false]
            intro s hs
            have z := List.all_eq_true.mp ha s hs
            simpa using z
          rw [ev_seq ((hf _).trans e3), show (some k).map (hasB st) = some (hasB st k) from rfl, hz]
          rfl
        · have hz : hasB st k = true := by
            unfold hasB
            have z : ¬ (st.all fun s => !inB s k) = true := by rw [ha]; simp
            by_cases y : st.any (fun s => inB s k) = true
            · exact y
            · refine absurd (List.all_eq_true.mpr fun s hs => ?_) z
              have y2 := List.any_eq_false.mp (Bool.eq_false_iff.mpr y) s hs
              simpa using y2
          rw [show (some k).map (hasB st) = some (hasB st k) from rfl, hz]
          exact ev_seqR ((hf _).trans e3)
    | miss c =>
      have h0 : mBin ixD (mVar 0) (mC (.int 0)) (N5 (tD (.miss c)) x none none none) bx = .ok (.val (.str "missing")) bx := rfl
      rw [ev_seq (ev_no ((ev_orF ((eqT h0).trans rfl)).trans ((eqT h0).trans rfl)))]
      refine ev_seqR ?_
      rw [ev_ifT (b := bx) ((eqT h0).trans rfl)]
      have e1 : mBin dgD (mVar 1) (mBin ixD (mVar 0) (mC (.int 1))) (N5 (tD (.miss c)) x none none none) bx = .ok (.val (oD (ρ c))) bx :=
        (ev_bin (r := .val x) (r' := .val (.str c)) (b := bx) (b' := bx) rfl rfl).trans (hl c (List.mem_singleton.mpr rfl))
      have e2 : mUn isN (mBin dgD (mVar 1) (mBin ixD (mVar 0) (mC (.int 1)))) (N5 (tD (.miss c)) x none none none) bx = .ok (.val (.bl (oD (ρ c)).isNon)) bx := ev_un e1
      have e3 : mCB (un1 intD) (aCons (mUn isN (mBin dgD (mVar 1) (mBin ixD (mVar 0) (mC (.int 1))))) aNil) (N5 (tD (.miss c)) x none none none) bx = .ok (.val (.int (if (oD (ρ c)).isNon then 1 else 0))) bx := by
        rw [ev_CB (ev_cons e2 ev_nil)]; rfl
      refine ev_ret ((ev_mulI (i := 2) (j := if (oD (ρ c)).isNon then 1 else 0) (m := mC (.int 2)) (b := bx) rfl e3 (small_mul (by decide) (by decide))).trans ?_)
      simp only [says]
      cases ρ c <;> rfl
    | alw =>
      have h0 : mBin ixD (mVar 0) (mC (.int 0)) (N5 (tD .alw) x none none none) bx = .ok (.val (.str "always")) bx := rfl
      refine ev_seqR ?_
      rw [ev_ifT (b := bx) (ev_orT ((eqT h0).trans rfl))]
      have e3 : mCB (un1 intD) (aCons (mBin eqD (mBin ixD (mVar 0) (mC (.int 0))) (mC (.str "always"))) aNil) (N5 (tD .alw) x none none none) bx = .ok (.val (.int 1)) bx := by
        rw [ev_CB (ev_cons (eqt h0) ev_nil)]; rfl
      exact ev_ret (ev_mulI (i := 2) (j := 1) (m := mC (.int 2)) (b := bx) rfl e3 (small_mul (by decide) (by decide)))
    | nev =>
      have h0 : mBin ixD (mVar 0) (mC (.int 0)) (N5 (tD .nev) x none none none) bx = .ok (.val (.str "never")) bx := rfl
      refine ev_seqR ?_
      rw [ev_ifT (b := bx) ((ev_orF ((eqT h0).trans rfl)).trans ((eqT h0).trans rfl))]
      have e3 : mCB (un1 intD) (aCons (mBin eqD (mBin ixD (mVar 0) (mC (.int 0))) (mC (.str "always"))) aNil) (N5 (tD .nev) x none none none) bx = .ok (.val (.int 0)) bx := by
        rw [ev_CB (ev_cons (eqt h0) ev_nil)]; rfl
      exact ev_ret (ev_mulI (i := 2) (j := 0) (m := mC (.int 2)) (b := bx) rfl e3 (small_mul (by decide) (by decide)))
    | no a =>
      have h2 : a.deep + 1 ≤ n + 1 := h
      have ea := num_ok CA n a (by omega) hok hl
      have h0 : mBin ixD (mVar 0) (mC (.int 0)) (N5 (tD (.no a)) x none none none) bx = .ok (.val (.str "not")) bx := rfl
      rw [ev_seq (ev_no ((ev_orF ((eqT h0).trans rfl)).trans ((eqT h0).trans rfl))), ev_seq (ev_no ((eqT h0).trans rfl))]
      refine ev_seqR ?_
      rw [ev_ifT (b := bx) ((eqT h0).trans rfl)]
      have e1 : mF (r__law_numbered CA n) (aCons (mBin ixD (mVar 0) (mC (.int 1))) (aCons (mVar 1) aNil)) (N5 (tD (.no a)) x none none none) bx = .ok (.val (.int (numb (says ρ a)))) bx := (ev_F (ev_cons (r := .val (tD a)) (b := bx) rfl (ev_cons (r := .val x) (b := bx) rfl ev_nil))).trans ea
      refine ev_ret ((ev_subI (i := 2) (m := mC (.int 2)) (b := bx) rfl e1).trans ?_)
      simp only [says]
      rcases says ρ a with _ | _ | _ <;> rfl
    | and a b =>
      have h2 : max a.deep b.deep + 1 ≤ n + 1 := h
      have ea := num_ok CA n a (by omega) hok.1 fun c hc => hl c (List.mem_append_left _ hc)
      have eb := num_ok CA n b (by omega) hok.2 fun c hc => hl c (List.mem_append_right _ hc)
      have h0 : mBin ixD (mVar 0) (mC (.int 0)) (N5 (tD (.and a b)) x none none none) bx = .ok (.val (.str "and")) bx := rfl
      rw [ev_seq (ev_no ((ev_orF ((eqT h0).trans rfl)).trans ((eqT h0).trans rfl))), ev_seq (ev_no ((eqT h0).trans rfl)), ev_seq (ev_no ((eqT h0).trans rfl))]
      refine ev_seqR ?_
      rw [ev_ifT (b := bx) ((eqT h0).trans rfl)]
      have e1 : mF (r__law_numbered CA n) (aCons (mBin ixD (mVar 0) (mC (.int 1))) (aCons (mVar 1) aNil)) (N5 (tD (.and a b)) x none none none) bx = .ok (.val (.int (numb (says ρ a)))) bx := (ev_F (ev_cons (r := .val (tD a)) (b := bx) rfl (ev_cons (r := .val x) (b := bx) rfl ev_nil))).trans ea
      have e2 : mF (r__law_numbered CA n) (aCons (mBin ixD (mVar 0) (mC (.int 2))) (aCons (mVar 1) aNil)) (N5 (tD (.and a b)) x none none none) bx = .ok (.val (.int (numb (says ρ b)))) bx := (ev_F (ev_cons (r := .val (tD b)) (b := bx) rfl (ev_cons (r := .val x) (b := bx) rfl ev_nil))).trans eb
      refine ev_ret ((ev_min e1 e2).trans ?_)
      rw [numb_min]
      rfl
    | or a b =>
      have h2 : max a.deep b.deep + 1 ≤ n + 1 := h
      have ea := num_ok CA n a (by omega) hok.1 fun c hc => hl c (List.mem_append_left _ hc)
      have eb := num_ok CA n b (by omega) hok.2 fun c hc => hl c (List.mem_append_right _ hc)
      have h0 : mBin ixD (mVar 0) (mC (.int 0)) (N5 (tD (.or a b)) x none none none) bx = .ok (.val (.str "or")) bx := rfl
      rw [ev_seq (ev_no ((ev_orF ((eqT h0).trans rfl)).trans ((eqT h0).trans rfl))), ev_seq (ev_no ((eqT h0).trans rfl)), ev_seq (ev_no ((eqT h0).trans rfl)), ev_seq (ev_no ((eqT h0).trans rfl))]
      refine ev_seqR ?_
      rw [ev_ifT (b := bx) ((eqT h0).trans rfl)]
      have e1 : mF (r__law_numbered CA n) (aCons (mBin ixD (mVar 0) (mC (.int 1))) (aCons (mVar 1) aNil)) (N5 (tD (.or a b)) x none none none) bx = .ok (.val (.int (numb (says ρ a)))) bx := (ev_F (ev_cons (r := .val (tD a)) (b := bx) rfl (ev_cons (r := .val x) (b := bx) rfl ev_nil))).trans ea
      have e2 : mF (r__law_numbered CA n) (aCons (mBin ixD (mVar 0) (mC (.int 2))) (aCons (mVar 1) aNil)) (N5 (tD (.or a b)) x none none none) bx = .ok (.val (.int (numb (says ρ b)))) bx := (ev_F (ev_cons (r := .val (tD b)) (b := bx) rfl (ev_cons (r := .val x) (b := bx) rfl ev_nil))).trans eb
      refine ev_ret ((ev_max e1 e2).trans ?_)
      rw [numb_max]
      rfl
/-! ### built -/
theorem bu_ok (CA : Ly) (hb : Cb bx) : ∀ (n : Nat) (t : Tr), t.deep ≤ n → Fw 24 62 t → t.cn → r__law_built CA n [tD t] bx = .ok (.new (fD t)) bx
  | 0, t, h, _, _ => by cases t <;> simp [Tr.deep] at h
  | n + 1, t, h, hw, hn => by
    refine (ar_ok rfl).trans ?_
    have fin : m__law_built CA (r__law_built CA n) [some (tD t)] bx = .rt (.new (fD t)) bx → body 1 (m__law_built CA (r__law_built CA n)) [tD t] bx = .ok (.new (fD t)) bx := fun e => body_rt e rfl
    refine fin ?_
    unfold m__law_built
    cases t with
    | win c st =>
      have h0 : mBin ixD (mVar 0) (mC (.int 0)) [some (tD (.win c st))] bx = .ok (.val (.str "within")) bx := rfl
      rw [ev_seq (ev_no ((eqT h0).trans rfl)), ev_seq (ev_no ((eqT h0).trans rfl)), ev_seq (ev_no ((eqT h0).trans rfl))]
      refine ev_seqR ?_
      rw [ev_ifT (b := bx) ((eqT h0).trans rfl)]
      have e1 : mF (r__law_set_of CA) (aCons (mBin ixD (mVar 0) (mC (.int 2))) aNil) [some (tD (.win c st))] bx = .ok (.val (rD st)) bx := (ev_F (ev_cons (r := .val (.tup (st.map sD))) (b := bx) rfl ev_nil)).trans (so_ok CA hb hn)
      exact ev_ret ((ev_CM (ev_cons (r := .val (.str c)) (b := bx) rfl (ev_cons e1 ev_nil))).trans (f_within CA hb c (Nat.le_trans hn.l (by decide))))
    | miss c =>
      have h0 : mBin ixD (mVar 0) (mC (.int 0)) [some (tD (.miss c))] bx = .ok (.val (.str "missing")) bx := rfl
      rw [ev_seq (ev_no ((eqT h0).trans rfl)), ev_seq (ev_no ((eqT h0).trans rfl))]
      refine ev_seqR ?_
      rw [ev_ifT (b := bx) ((eqT h0).trans rfl)]
      exact ev_ret ((ev_CM (ev_cons (r := .val (.str c)) (b := bx) rfl ev_nil)).trans (f_missing CA hb c))
    | alw =>
      have h0 : mBin ixD (mVar 0) (mC (.int 0)) [some (tD .alw)] bx = .ok (.val (.str "always")) bx := rfl
      refine ev_seqR ?_
      rw [ev_ifT (b := bx) ((eqT h0).trans rfl)]
      exact ev_ret ((ev_CM ev_nil).trans (f_always CA hb))
    | nev =>
      have h0 : mBin ixD (mVar 0) (mC (.int 0)) [some (tD .nev)] bx = .ok (.val (.str "never")) bx := rfl
      rw [ev_seq (ev_no ((eqT h0).trans rfl))]
      refine ev_seqR ?_
      rw [ev_ifT (b := bx) ((eqT h0).trans rfl)]
      exact ev_ret ((ev_CM ev_nil).trans (f_never CA hb))
    | no a =>
      have h2 : a.deep + 1 ≤ n + 1 := h
      have wa : Fw 24 62 a := ⟨by have := hw.deep; simp only [Tr.deep] at this; omega, hw.cols, hw.ok⟩
      have ea := bu_ok CA hb n a (by omega) wa hn
      have h0 : mBin ixD (mVar 0) (mC (.int 0)) [some (tD (.no a))] bx = .ok (.val (.str "not")) bx := rfl
      rw [ev_seq (ev_no ((eqT h0).trans rfl)), ev_seq (ev_no ((eqT h0).trans rfl)), ev_seq (ev_no ((eqT h0).trans rfl)), ev_seq (ev_no ((eqT h0).trans rfl))]
      refine ev_seqR ?_
      rw [ev_ifT (b := bx) ((eqT h0).trans rfl)]
      have e1 : mF (r__law_built CA n) (aCons (mBin ixD (mVar 0) (mC (.int 1))) aNil) [some (tD (.no a))] bx = .ok (.new (fD a)) bx := (ev_F (ev_cons (r := .val (tD a)) (b := bx) rfl ev_nil)).trans ea
      exact ev_ret ((ev_un e1).trans (f_no CA hb hw))
    | and a b =>
      have h2 : max a.deep b.deep + 1 ≤ n + 1 := h
      have h3 := hw.deep
      have h4 := hw.cols
      simp only [Tr.deep, Tr.cols, List.length_append] at h3 h4
      have ea := bu_ok CA hb n a (by omega) ⟨by omega, by omega, hw.ok.1⟩ hn.1
      have eb := bu_ok CA hb n b (by omega) ⟨by omega, by omega, hw.ok.2⟩ hn.2
      have h0 : mBin ixD (mVar 0) (mC (.int 0)) [some (tD (.and a b))] bx = .ok (.val (.str "and")) bx := rfl
      rw [ev_seq (ev_no ((eqT h0).trans rfl)), ev_seq (ev_no ((eqT h0).trans rfl)), ev_seq (ev_no ((eqT h0).trans rfl)), ev_seq (ev_no ((eqT h0).trans rfl)), ev_seq (ev_no ((eqT h0).trans rfl))]
      refine ev_seqR ?_
      rw [ev_ifT (b := bx) ((eqT h0).trans rfl)]
      have e1 : mF (r__law_built CA n) (aCons (mBin ixD (mVar 0) (mC (.int 1))) aNil) [some (tD (.and a b))] bx = .ok (.new (fD a)) bx := (ev_F (ev_cons (r := .val (tD a)) (b := bx) rfl ev_nil)).trans ea
      have e2 : mF (r__law_built CA n) (aCons (mBin ixD (mVar 0) (mC (.int 2))) aNil) [some (tD (.and a b))] bx = .ok (.new (fD b)) bx := (ev_F (ev_cons (r := .val (tD b)) (b := bx) rfl ev_nil)).trans eb
      exact ev_ret ((ev_bin e1 e2).trans (f_and CA hb hw))
    | or a b =>
      have h2 : max a.deep b.deep + 1 ≤ n + 1 := h
      have h3 := hw.deep
      have h4 := hw.cols
      simp only [Tr.deep, Tr.cols, List.length_append] at h3 h4
      have ea := bu_ok CA hb n a (by omega) ⟨by omega, by omega, hw.ok.1⟩ hn.1
      have eb := bu_ok CA hb n b (by omega) ⟨by omega, by omega, hw.ok.2⟩ hn.2
      have h0 : mBin ixD (mVar 0) (mC (.int 0)) [some (tD (.or a b))] bx = .ok (.val (.str "or")) bx := rfl
      rw [ev_seq (ev_no ((eqT h0).trans rfl)), ev_seq (ev_no ((eqT h0).trans rfl)), ev_seq (ev_no ((eqT h0).trans rfl)), ev_seq (ev_no ((eqT h0).trans rfl)), ev_seq (ev_no ((eqT h0).trans rfl)), ev_seq (ev_no ((eqT h0).trans rfl))]
      have e1 : mF (r__law_built CA n) (aCons (mBin ixD (mVar 0) (mC (.int 1))) aNil) [some (tD (.or a b))] bx = .ok (.new (fD a)) bx := (ev_F (ev_cons (r := .val (tD a)) (b := bx) rfl ev_nil)).trans ea
      have e2 : mF (r__law_built CA n) (aCons (mBin ixD (mVar 0) (mC (.int 2))) aNil) [some (tD (.or a b))] bx = .ok (.new (fD b)) bx := (ev_F (ev_cons (r := .val (tD b)) (b := bx) rfl ev_nil)).trans eb
      exact ev_ret ((ev_bin e1 e2).trans (f_or CA hb hw))
end
end Q0

set_option Elab.async false
set_option linter.all false
set_option maxRecDepth 100000
set_option maxHeartbeats 4000000
/-! QC: columns of a tree; trees grown. -/
namespace Q0
open PySem DL
section
variable {CA : Ly} {bx : List D} {x : D}
abbrev m_lcb (rc : MF) : MS := mAsg (mBin addL (mVar 1) (mF rc (aCons (mVar 2) aNil))) (gN 1)
theorem lc_loop {rc : MF} : ∀ (ts : List Tr) (acc : List Str) (o2 : Option D), (∀ u ∈ ts, ∃ r, rc [tD u] bx = .ok r bx ∧ r.d = .lst (u.cols.map .str)) → acc.length + (ts.flatMap Tr.cols).length ≤ 1000 →
    ∃ p2, loop (gN 2) (m_lcb rc) (ts.map tD) [some x, some (.lst (acc.map .str)), o2] bx = .nx [some x, some (.lst ((acc ++ ts.flatMap Tr.cols).map .str)), p2] bx
  | [], acc, o2, _, _ => ⟨o2, by rw [List.flatMap_nil, List.append_nil]; rfl⟩
  | t :: ts, acc, o2, h, hl => by
    rw [List.flatMap_cons, List.length_append] at hl
    obtain ⟨r, e1, e2⟩ := h t (List.mem_cons_self ..)
    have e3 : mBin addL (mVar 1) (mF rc (aCons (mVar 2) aNil)) [some x, some (.lst (acc.map .str)), some (tD t)] bx = .ok (.new (.lst ((acc ++ t.cols).map .str))) bx := by
      rw [List.map_append]
      exact ev_addL (r := .val (.lst (acc.map .str))) (b := bx) rfl ((ev_F (ev_cons (r := .val (tD t)) (b := bx) rfl ev_nil)).trans e1) rfl e2 (by rw [List.length_map, List.length_map]; exact Nat.le_trans (by omega) (show 1000 ≤ sizeLine by decide))
    obtain ⟨p2, e4⟩ := lc_loop ts (acc ++ t.cols) (some (tD t)) (fun u hu => h u (List.mem_cons_of_mem _ hu)) (by rw [List.length_append]; omega)
    refine ⟨p2, ?_⟩
    rw [List.map_cons, List.flatMap_cons, ← List.append_assoc]
    exact (loop_nx (ρ1 := [some x, some (.lst (acc.map .str)), some (tD t)]) rfl (ev_asg (i := 1) e3)).trans e4
theorem lc_in (CA : Ly) {rc : MF} {t : Tr} {ts : List Tr} {w : Str} (h0 : mBin ixD (mVar 0) (mC (.int 0)) [some (tD t), none, none] bx = .ok (.val (.str w)) bx) (h1 : SeqAt.shaped (.str w) = true) (hm : w ≠ "missing") (hw : w ≠ "within")
    (hn : ∀ o, mTest (mBin (DL.inS true) (mBin ixD (mVar 0) (mC (.int 0))) (mTup (aCons (mC (.str "always")) (aCons (mC (.str "never")) aNil)))) [some (tD t), o, none] bx = .ok true bx)
    (hs : ∀ o, iSeq (mSlice (mVar 0) (pSome (mC (.int 1))) pNone) [some (tD t), o, none] bx = .ok (ts.map tD) bx)
    (hrc : ∀ u ∈ ts, ∃ r, rc [tD u] bx = .ok r bx ∧ r.d = .lst (u.cols.map .str)) (hl : (ts.flatMap Tr.cols).length ≤ 1000) : ar 1 (body 3 (m__law_columns CA rc)) [tD t] bx = .ok (.val (.lst ((ts.flatMap Tr.cols).map .str))) bx := by
  obtain ⟨p2, e⟩ := lc_loop (x := tD t) ts [] none hrc (by simpa using hl)
  refine (ar_ok rfl).trans (body_rt (b := bx) (r := .val (.lst ((ts.flatMap Tr.cols).map .str))) ?_ rfl)
  show m__law_columns CA rc [some (tD t), none, none] bx = _
  unfold m__law_columns
  have t1 : mTest (mBin eqD (mBin ixD (mVar 0) (mC (.int 0))) (mC (.str "missing"))) [some (tD t), none, none] bx = .ok false bx := by rw [eqT h0 h1, decide_eq_false hm]
  have t2 : mTest (mBin eqD (mBin ixD (mVar 0) (mC (.int 0))) (mC (.str "within"))) [some (tD t), none, none] bx = .ok false bx := by rw [eqT h0 h1, decide_eq_false hw]
  rw [ev_seq (ev_no ((ev_orF t1).trans t2)), ev_seq (ev_asg (i := 1) (r := .new (.lst [])) (b := bx) rfl)]
  rw [show ([some (tD t), none, none] : Sl).set 1 (some (R.new (.lst [])).d) = [some (tD t), some (.lst []), none] from rfl]
  have e2 : mFor (iSeq (mSlice (mVar 0) (pSome (mC (.int 1))) pNone)) (gN 2) (m_lcb rc) [some (tD t), some (.lst []), none] bx = .nx [some (tD t), some (.lst ((ts.flatMap Tr.cols).map .str)), p2] bx := (ev_for (hs _)).trans (by simpa using e)
  rw [ev_seq ((ev_ifT (hn _)).trans e2)]
  rfl
theorem lc_leaf (CA : Ly) {rc : MF} {t : Tr} {c : Str} (h : mOr (mTest (mBin eqD (mBin ixD (mVar 0) (mC (.int 0))) (mC (.str "missing")))) (mTest (mBin eqD (mBin ixD (mVar 0) (mC (.int 0))) (mC (.str "within")))) [some (tD t), none, none] bx = .ok true bx)
    (hc : mBin ixD (mVar 0) (mC (.int 1)) [some (tD t), none, none] bx = .ok (.val (.str c)) bx) : ar 1 (body 3 (m__law_columns CA rc)) [tD t] bx = .ok (.new (.lst [.str c])) bx := by
  refine (ar_ok rfl).trans (body_rt (b := bx) (r := .new (.lst [.str c])) ?_ rfl)
  show m__law_columns CA rc [some (tD t), none, none] bx = _
  unfold m__law_columns
  refine ev_seqR ((ev_ifT h).trans (ev_ret ?_))
  exact ev_lst (ev_cons hc ev_nil)
theorem lc_ok (CA : Ly) : ∀ (n : Nat) (t : Tr), t.deep ≤ n → t.cols.length ≤ 1000 → ∃ r, r__law_columns CA n [tD t] bx = .ok r bx ∧ r.d = .lst (t.cols.map .str)
  | 0, t, h, _ => by cases t <;> simp [Tr.deep] at h
  | n + 1, t, h, hl => by
    cases t with
    | win c st =>
      have h0 : mBin ixD (mVar 0) (mC (.int 0)) [some (tD (.win c st)), none, none] bx = .ok (.val (.str "within")) bx := rfl
      exact ⟨_, lc_leaf CA (c := c) ((ev_orF ((eqT h0).trans rfl)).trans ((eqT h0).trans rfl)) rfl, rfl⟩
    | miss c =>
      have h0 : mBin ixD (mVar 0) (mC (.int 0)) [some (tD (.miss c)), none, none] bx = .ok (.val (.str "missing")) bx := rfl
      exact ⟨_, lc_leaf CA (c := c) (ev_orT ((eqT h0).trans rfl)) rfl, rfl⟩
    | alw =>
      refine ⟨.val (.lst []), ?_, rfl⟩
      have h0 : mBin ixD (mVar 0) (mC (.int 0)) [some (tD .alw), none, none] bx = .ok (.val (.str "always")) bx := rfl
      refine (ar_ok rfl).trans (body_rt (b := bx) ?_ rfl)
      show m__law_columns CA _ [some (tD .alw), none, none] bx = _
      unfold m__law_columns
      rw [ev_seq (ev_no ((ev_orF ((eqT h0).trans rfl)).trans ((eqT h0).trans rfl))), ev_seq (ev_asg (i := 1) (r := .new (.lst [])) (b := bx) rfl), ev_seq (ev_no (b := bx) rfl)]
      rfl
    | nev =>
      refine ⟨.val (.lst []), ?_, rfl⟩
      have h0 : mBin ixD (mVar 0) (mC (.int 0)) [some (tD .nev), none, none] bx = .ok (.val (.str "never")) bx := rfl
      refine (ar_ok rfl).trans (body_rt (b := bx) ?_ rfl)
      show m__law_columns CA _ [some (tD .nev), none, none] bx = _
      unfold m__law_columns
      rw [ev_seq (ev_no ((ev_orF ((eqT h0).trans rfl)).trans ((eqT h0).trans rfl))), ev_seq (ev_asg (i := 1) (r := .new (.lst [])) (b := bx) rfl), ev_seq (ev_no (b := bx) rfl)]
      rfl
    | no a =>
      have h2 : a.deep + 1 ≤ n + 1 := h
      have ea := lc_ok CA n a (by omega) hl
      refine ⟨_, lc_in CA (ts := [a]) (w := "not") rfl (by decide +kernel) (by decide) (by decide) (fun _ => rfl) (fun _ => rfl) (fun u hu => by rw [List.mem_singleton.mp hu]; exact ea) (by simpa [Tr.cols] using hl), ?_⟩
      simp [R.d, Tr.cols]
    | and a b =>
      have h2 : max a.deep b.deep + 1 ≤ n + 1 := h
      simp only [Tr.cols, List.length_append] at hl
      have ea := lc_ok CA n a (by omega) (by omega)
      have eb := lc_ok CA n b (by omega) (by omega)
      refine ⟨_, lc_in CA (ts := [a, b]) (w := "and") rfl (by decide +kernel) (by decide) (by decide) (fun _ => rfl) (fun _ => rfl) (fun u hu => ?_) (by simp; omega), ?_⟩
      · rcases List.mem_cons.mp hu with rfl | hu
        · exact ea
        · rw [List.mem_singleton.mp hu]; exact eb
      · simp [R.d, Tr.cols]
    | or a b =>
      have h2 : max a.deep b.deep + 1 ≤ n + 1 := h
      simp only [Tr.cols, List.length_append] at hl
      have ea := lc_ok CA n a (by omega) (by omega)
      have eb := lc_ok CA n b (by omega) (by omega)
      refine ⟨_, lc_in CA (ts := [a, b]) (w := "or") rfl (by decide +kernel) (by decide) (by decide) (fun _ => rfl) (fun _ => rfl) (fun u hu => ?_) (by simp; omega), ?_⟩
      · rcases List.mem_cons.mp hu with rfl | hu
        · exact ea
        · rw [List.mem_singleton.mp hu]; exact eb
      · simp [R.d, Tr.cols]
end
section
variable {CA : Ly} {rest : List D} {cs : List Str}
abbrev G8 (cs : List Str) (left deep : Int) (o4 o5 o6 o7 : Option D) : Sl := [some (.box 0), some (.lst (cs.map .str)), some (.int left), some (.int deep), o4, o5, o6, o7]
theorem gr_ok (CA : Ly) (hr : Cr rest) (hc : cs ≠ []) (hl : cs.length ≤ 1000) : ∀ (fuel left deep : Nat) (p : Pn) (k : Int), deep ≤ fuel → 1 ≤ deep → deep ≤ 20 → 1 ≤ left → left ≤ 60 → PO p k → k + 12 * ((left * deep : Nat) : Int) < 900000 →
    ∃ (r : R) (t : Tr) (p' : Pn), r__law_grown CA fuel [.box 0, .lst (cs.map .str), .int left, .int deep] (pD p :: rest) = .ok r (pD p' :: rest) ∧ r.d = tD t ∧ TV (· ∈ cs) deep left t ∧ PO p' (k + 12 * ((left * deep : Nat) : Int))
  | 0, left, deep, p, k, h1, h2, _, _, _, _, _ => by omega
  | fuel + 1, left, deep, p, k, hf, hd1, hd2, hl1, hl2, hp, hk => by
    have hd := Drw_a CA
    have hpos : 1 ≤ left * deep := Nat.mul_pos hl1 hd1
    have fin : ∀ (r : R) (p' : Pn), m__law_grown CA (r__law_grown CA fuel) (G8 cs left deep none none none none) (pD p :: rest) = .rt r (pD p' :: rest) → r__law_grown CA (fuel + 1) [.box 0, .lst (cs.map .str), .int left, .int deep] (pD p :: rest) = .ok r (pD p' :: rest) := fun r p' e => run_rt e
    have tt : mOr (mTest (mBin ltI (mVar 2) (mC (.int 2)))) (mTest (mBin ltI (mVar 3) (mC (.int 2)))) (G8 cs left deep none none none none) (pD p :: rest) = .ok (decide ((left : Int) < 2) || decide ((deep : Int) < 2)) (pD p :: rest) := by
      have t1 : mTest (mBin ltI (mVar 2) (mC (.int 2))) (G8 cs left deep none none none none) (pD p :: rest) = .ok (decide ((left : Int) < 2)) (pD p :: rest) := rfl
      have t2 : mTest (mBin ltI (mVar 3) (mC (.int 2))) (G8 cs left deep none none none none) (pD p :: rest) = .ok (decide ((deep : Int) < 2)) (pD p :: rest) := rfl
      cases z : decide ((left : Int) < 2) with
      | true => rw [z] at t1; rw [ev_orT t1]; rfl
      | false => rw [z] at t1; rw [ev_orF t1, t2]; rfl
    by_cases hsm : left < 2 ∨ deep < 2
    · have z : (decide ((left : Int) < 2) || decide ((deep : Int) < 2)) = true := by
        rcases hsm with h | h
        · rw [decide_eq_true (by omega : (left : Int) < 2)]; rfl
        · rw [decide_eq_true (by omega : (deep : Int) < 2), Bool.or_true]
      rw [z] at tt
      obtain ⟨r, t, p1, e, er, _, g, h1⟩ := leaf_ok CA hp (by omega) hr hc hl
      have s7 : mAsg (mF (r__law_leaf CA) (aCons (mVar 0) (aCons (mVar 1) aNil))) (gN 7) (G8 cs left deep none none none none) (pD p :: rest) = .nx (G8 cs left deep none none none (some (tD t))) (pD p1 :: rest) := by
        rw [ev_asg (i := 7) ((ev_F (ev_cons (r := .val (.box 0)) (b := pD p :: rest) rfl (ev_cons (r := .val (.lst (cs.map .str))) (b := pD p :: rest) rfl ev_nil))).trans e), er]
        rfl
      have t3 : mTest (mBin gtI (mVar 3) (mC (.int 2))) (G8 cs left deep none none none (some (tD t))) (pD p1 :: rest) = .ok (decide ((2 : Int) < deep)) (pD p1 :: rest) := rfl
      by_cases hd3 : 2 < deep
      · rw [decide_eq_true (by omega : (2 : Int) < deep)] at t3
        obtain ⟨r2, p2, e2, a1, a2, h2⟩ := ev_draw hd (ρ := G8 cs left deep none none none (some (tD t))) (rest := rest) (m := mC (.int 3)) rfl rfl h1 (by omega) (by decide) (by decide)
        have t4 := (ev_andT (m' := mTest (mBin eqD (mF (r__law_draw CA) (aCons (mVar 0) (aCons (mC (.int 3)) aNil))) (mC (.int 0)))) t3).trans (ev_eqI (m' := mC (.int 0)) (j := 0) e2 rfl)
        by_cases q : r2 = 0
        · rw [show (r2 == 0) = true by rw [q]; rfl] at t4
          refine ⟨.val (tD (.no t)), .no t, p2, fin _ _ ?_, rfl, g.no.mono (by omega) hl1, h2.mono (by omega)⟩
          unfold m__law_grown
          refine ev_seqR ((ev_ifT tt).trans ?_)
          rw [ev_seq s7]
          exact ev_seqR ((ev_ifT t4).trans rfl)
        · rw [show (r2 == 0) = false from beq_eq_false_iff_ne.mpr q] at t4
          refine ⟨.val (tD t), t, p2, fin _ _ ?_, rfl, g.mono hd1 hl1, h2.mono (by omega)⟩
          unfold m__law_grown
          refine ev_seqR ((ev_ifT tt).trans ?_)
          rw [ev_seq s7, ev_seq (ev_no t4)]
          rfl
      · rw [decide_eq_false (by omega : ¬ (2 : Int) < deep)] at t3
        refine ⟨.val (tD t), t, p1, fin _ _ ?_, rfl, g.mono hd1 hl1, h1.mono (by omega)⟩
        unfold m__law_grown
        refine ev_seqR ((ev_ifT tt).trans ?_)
        rw [ev_seq s7, ev_seq (ev_no (ev_andF t3))]
        rfl
    · have z : (decide ((left : Int) < 2) || decide ((deep : Int) < 2)) = false := by
        rw [decide_eq_false (by omega : ¬ (left : Int) < 2), decide_eq_false (by omega : ¬ (deep : Int) < 2)]; rfl
      rw [z] at tt
      obtain ⟨d, rfl⟩ : ∃ d, deep = d + 1 := ⟨deep - 1, by omega⟩
      have hmul : left * (d + 1) = left * d + left := Nat.mul_succ left d
      rw [hmul] at hk hpos ⊢
      obtain ⟨r1, p1, e1, a1, a2, h1⟩ := ev_draw hd (ρ := G8 cs left ((d + 1 : Nat) : Int) none none none none) (rest := rest) (m := mC (.int 9)) rfl rfl hp (by omega) (by decide) (by decide)
      have s4 := ev_asg (i := 4) e1
      have t1 : mTest (mBin eqD (mVar 4) (mC (.int 0))) (G8 cs left ((d + 1 : Nat) : Int) (some (.int r1)) none none none) (pD p1 :: rest) = .ok (r1 == 0) (pD p1 :: rest) := rfl
      have ed : ((d + 1 : Nat) : Int) - 1 = (d : Int) := by omega
      by_cases q : r1 = 0
      · rw [show (r1 == 0) = true by rw [q]; rfl] at t1
        obtain ⟨r, t, p2, e2, er, g, h2⟩ := gr_ok CA hr hc hl fuel left d p1 (k + 1) (by omega) (by omega) (by omega) hl1 hl2 h1 (by omega)
        refine ⟨.val (tD (.no t)), .no t, p2, fin _ _ ?_, rfl, g.no, h2.mono (by omega)⟩
        unfold m__law_grown
        refine (ev_seq (ev_no tt)).trans ((ev_seq s4).trans (ev_seqR ((ev_ifT t1).trans (ev_ret ?_))))
        have e4 : mF (r__law_grown CA fuel) (aCons (mVar 0) (aCons (mVar 1) (aCons (mVar 2) (aCons (mBin subI (mVar 3) (mC (.int 1))) aNil)))) (G8 cs left ((d + 1 : Nat) : Int) (some (.int r1)) none none none) (pD p1 :: rest) = .ok r (pD p2 :: rest) := by
          rw [ev_F (ev_cons (r := .val (.box 0)) (b := pD p1 :: rest) rfl (ev_cons (r := .val (.lst (cs.map .str))) (b := pD p1 :: rest) rfl (ev_cons (r := .val (.int left)) (b := pD p1 :: rest) rfl (ev_cons (r := .val (.int (((d + 1 : Nat) : Int) - 1))) (b := pD p1 :: rest) rfl ev_nil))))]
          show r__law_grown CA fuel [.box 0, .lst (cs.map .str), .int left, .int (((d + 1 : Nat) : Int) - 1)] (pD p1 :: rest) = _
          rw [ed]; exact e2
        rw [show tD (.no t) = .tup [.str "not", r.d] by rw [er]; rfl]
        exact ev_tup2 (r1 := .val (.str "not")) (b1 := pD p1 :: rest) rfl e4
      · rw [show (r1 == 0) = false from beq_eq_false_iff_ne.mpr q] at t1
        obtain ⟨r2, p2, e2, b1, b2, h2⟩ := ev_draw hd (ρ := G8 cs left ((d + 1 : Nat) : Int) (some (.int r1)) none none none) (rest := rest) (m := mBin subI (mVar 2) (mC (.int 1))) (many := (left : Int) - 1) rfl rfl h1 (by omega) (by omega) (by omega)
        have el : mLst (aCons (mC (.int 1)) (aCons (mBin subI (mVar 2) (mC (.int 1))) (aCons (mBin divW (mVar 2) (mC (.int 2))) (aCons (mBin addI (mC (.int 1)) (mF (r__law_draw CA) (aCons (mVar 0) (aCons (mBin subI (mVar 2) (mC (.int 1))) aNil)))) aNil)))) (G8 cs left ((d + 1 : Nat) : Int) (some (.int r1)) none none none) (pD p1 :: rest) = .ok (.new (.lst ([1, (left : Int) - 1, (left : Int) / 2, 1 + r2].map .int))) (pD p2 :: rest) :=
          ev_lst (ev_cons (r := .val (.int 1)) (b := pD p1 :: rest) rfl (ev_cons (r := .val (.int ((left : Int) - 1))) (b := pD p1 :: rest) rfl (ev_cons (r := .val (.int ((left : Int) / 2))) (b := pD p1 :: rest) (ev_divW (i := left) (j := 2) (b := pD p1 :: rest) rfl rfl (by decide) (by decide)) (ev_cons (ev_addI (m := mC (.int 1)) (i := 1) (b := pD p1 :: rest) rfl e2) ev_nil)))) (by show 4 ≤ sizeLine; decide)
        obtain ⟨j, p3, e3, c1, c2, h3⟩ := ev_draw hd (ρ := G8 cs left ((d + 1 : Nat) : Int) (some (.int r1)) none none none) (rest := rest) (m := mC (.int 4)) rfl rfl h2 (by omega) (by decide) (by decide)
        obtain ⟨oi, hoi, e5, _⟩ := atI_map D.int (xs := [1, (left : Int) - 1, (left : Int) / 2, 1 + r2]) c1 (by simpa using c2)
        have hoi2 : 1 ≤ oi ∧ oi ≤ (left : Int) - 1 := by
          have hm := List.mem_of_getElem? hoi
          simp only [List.mem_cons, List.not_mem_nil, or_false] at hm
          rcases hm with rfl | rfl | rfl | rfl <;> omega
        obtain ⟨o, ho⟩ : ∃ o : Nat, (o : Int) = oi := ⟨oi.toNat, by omega⟩
        obtain ⟨o', ho'⟩ : ∃ o' : Nat, o + o' = left := ⟨left - o, by omega⟩
        have hsplit : left * d = o * d + o' * d := by rw [← ho', Nat.add_mul]
        rw [hsplit] at hk ⊢
        have s5 : mAsg (mBin ixD (mLst (aCons (mC (.int 1)) (aCons (mBin subI (mVar 2) (mC (.int 1))) (aCons (mBin divW (mVar 2) (mC (.int 2))) (aCons (mBin addI (mC (.int 1)) (mF (r__law_draw CA) (aCons (mVar 0) (aCons (mBin subI (mVar 2) (mC (.int 1))) aNil)))) aNil))))) (mF (r__law_draw CA) (aCons (mVar 0) (aCons (mC (.int 4)) aNil)))) (gN 5) (G8 cs left ((d + 1 : Nat) : Int) (some (.int r1)) none none none) (pD p1 :: rest) = .nx (G8 cs left ((d + 1 : Nat) : Int) (some (.int r1)) (some (.int o)) none none) (pD p3 :: rest) := by
          rw [ev_asg (i := 5) ((ev_bin el e3).trans (ix_lst e5)), ho]
          rfl
        obtain ⟨ra, t, p4, e6, er, g3, h4⟩ := gr_ok CA hr hc hl fuel o d p3 (k + 1 + 1 + 1) (by omega) (by omega) (by omega) (by omega) (by omega) h3 (by omega)
        obtain ⟨rb, u, p5, e7, er2, g4, h5⟩ := gr_ok CA hr hc hl fuel o' d p4 (k + 1 + 1 + 1 + 12 * ((o * d : Nat) : Int)) (by omega) (by omega) (by omega) (by omega) (by omega) h4 (by omega)
        have s6 : mAsg (mF (r__law_grown CA fuel) (aCons (mVar 0) (aCons (mVar 1) (aCons (mVar 5) (aCons (mBin subI (mVar 3) (mC (.int 1))) aNil))))) (gN 6) (G8 cs left ((d + 1 : Nat) : Int) (some (.int r1)) (some (.int o)) none none) (pD p3 :: rest) = .nx (G8 cs left ((d + 1 : Nat) : Int) (some (.int r1)) (some (.int o)) (some (tD t)) none) (pD p4 :: rest) := by
          have e8 : mF (r__law_grown CA fuel) (aCons (mVar 0) (aCons (mVar 1) (aCons (mVar 5) (aCons (mBin subI (mVar 3) (mC (.int 1))) aNil)))) (G8 cs left ((d + 1 : Nat) : Int) (some (.int r1)) (some (.int o)) none none) (pD p3 :: rest) = .ok ra (pD p4 :: rest) := by
            rw [ev_F (ev_cons (r := .val (.box 0)) (b := pD p3 :: rest) rfl (ev_cons (r := .val (.lst (cs.map .str))) (b := pD p3 :: rest) rfl (ev_cons (r := .val (.int o)) (b := pD p3 :: rest) rfl (ev_cons (r := .val (.int (((d + 1 : Nat) : Int) - 1))) (b := pD p3 :: rest) rfl ev_nil))))]
            show r__law_grown CA fuel [.box 0, .lst (cs.map .str), .int o, .int (((d + 1 : Nat) : Int) - 1)] (pD p3 :: rest) = _
            rw [ed]; exact e6
          rw [ev_asg (i := 6) e8, er]
          rfl
        have eo : (left : Int) - (o : Int) = (o' : Int) := by omega
        have e9 : mF (r__law_grown CA fuel) (aCons (mVar 0) (aCons (mVar 1) (aCons (mBin subI (mVar 2) (mVar 5)) (aCons (mBin subI (mVar 3) (mC (.int 1))) aNil)))) (G8 cs left ((d + 1 : Nat) : Int) (some (.int r1)) (some (.int o)) (some (tD t)) none) (pD p4 :: rest) = .ok rb (pD p5 :: rest) := by
          rw [ev_F (ev_cons (r := .val (.box 0)) (b := pD p4 :: rest) rfl (ev_cons (r := .val (.lst (cs.map .str))) (b := pD p4 :: rest) rfl (ev_cons (r := .val (.int ((left : Int) - (o : Int)))) (b := pD p4 :: rest) rfl (ev_cons (r := .val (.int (((d + 1 : Nat) : Int) - 1))) (b := pD p4 :: rest) rfl ev_nil))))]
          show r__law_grown CA fuel [.box 0, .lst (cs.map .str), .int ((left : Int) - (o : Int)), .int (((d + 1 : Nat) : Int) - 1)] (pD p4 :: rest) = _
          rw [ed, eo]; exact e7
        have pre : ∀ (w : Str) (t2 : Tr), mBin ixD (mLst (aCons (mC (.str "and")) (aCons (mC (.str "or")) aNil))) (mBin modI (mVar 4) (mC (.int 2))) (G8 cs left ((d + 1 : Nat) : Int) (some (.int r1)) (some (.int o)) (some (tD t)) none) (pD p4 :: rest) = .ok (.val (.str w)) (pD p4 :: rest) → tD t2 = .tup [.str w, tD t, tD u] →
            m__law_grown CA (r__law_grown CA fuel) (G8 cs left ((d + 1 : Nat) : Int) none none none none) (pD p :: rest) = .rt (.val (tD t2)) (pD p5 :: rest) := fun w t2 e h => by
          unfold m__law_grown
          refine (ev_seq (ev_no tt)).trans ((ev_seq s4).trans ((ev_seq (ev_no t1)).trans ((ev_seq s5).trans ((ev_seq s6).trans (ev_ret ?_)))))
          rw [h, ← er2]
          exact ev_tup3 (r2 := .val (tD t)) (b2 := pD p4 :: rest) e rfl e9
        have em : mBin modI (mVar 4) (mC (.int 2)) (G8 cs left ((d + 1 : Nat) : Int) (some (.int r1)) (some (.int o)) (some (tD t)) none) (pD p4 :: rest) = .ok (.val (.int (r1 % 2))) (pD p4 :: rest) := ev_modI (i := r1) (j := 2) (b := pD p4 :: rest) rfl rfl (by decide)
        rcases (show r1 % 2 = 0 ∨ r1 % 2 = 1 by omega) with hz | hz
        · rw [hz] at em
          exact ⟨_, .and t u, p5, fin _ _ (pre "and" (.and t u) ((ev_bin (r := .new (.lst [.str "and", .str "or"])) (b := pD p4 :: rest) rfl em).trans rfl) rfl), rfl, ho' ▸ g3.and g4, h5.mono (by omega)⟩
        · rw [hz] at em
          exact ⟨_, .or t u, p5, fin _ _ (pre "or" (.or t u) ((ev_bin (r := .new (.lst [.str "and", .str "or"])) (b := pD p4 :: rest) rfl em).trans rfl) rfl), rfl, ho' ▸ g3.or g4, h5.mono (by omega)⟩
end
end Q0

set_option Elab.async false
set_option linter.all false
set_option maxRecDepth 100000
set_option maxHeartbeats 4000000
/-! QD: trees as data; dicts of values. -/
namespace Q0
open PySem DL
/-! ### trees as plain data -/
def tP : Tr → PyData
  | .win c st => .tuple [.str "within", .str c, .tuple (st.map sP)]
  | .miss c => .tuple [.str "missing", .str c]
  | .alw => .tuple [.str "always"]
  | .nev => .tuple [.str "never"]
  | .and a b => .tuple [.str "and", tP a, tP b]
  | .or a b => .tuple [.str "or", tP a, tP b]
  | .no a => .tuple [.str "not", tP a]
abbrev Nm (c : Str) : Prop := PyData.canLay0 (.str c) = true
theorem toP_2 (w : Str) (d d' : D) (p p' : PyData) (h : d.toP = some p) (h' : d'.toP = some p') : (D.tup [.str w, d, d']).toP = some (.tuple [.str w, p, p']) := by
  simp only [D.toP, D.toPs, h, h']
theorem toP_t : ∀ t : Tr, (tD t).toP = some (tP t)
  | .win c st => by
    refine toP_2 "within" (.str c) (.tup (st.map sD)) _ _ rfl ?_
    simp only [D.toP, toPs_s]
  | .miss c => rfl
  | .alw => rfl
  | .nev => rfl
  | .and a b => toP_2 _ _ _ _ _ (toP_t a) (toP_t b)
  | .or a b => toP_2 _ _ _ _ _ (toP_t a) (toP_t b)
  | .no a => by
    show (D.tup [.str "not", tD a]).toP = _
    simp only [D.toP, D.toPs, toP_t a]
    rfl
theorem lay_t : ∀ t : Tr, (∀ c ∈ t.cols, Nm c) → (tP t).canLay0 = true
  | .win c st, h => by
    have h1 : PyData.canLay0 (.str c) = true := h c (List.mem_singleton.mpr rfl)
    have h2 : PyData.canLayAll0 (st.map sP) = true := lays_s st
    show (PyData.canLay0 (.str "within") && (PyData.canLay0 (.str c) && (PyData.canLayAll0 (st.map sP) && true))) = true
    rw [h1, h2, show PyData.canLay0 (.str "within") = true from by decide +kernel]; rfl
  | .miss c, h => by
    have h1 : PyData.canLay0 (.str c) = true := h c (List.mem_singleton.mpr rfl)
    show (PyData.canLay0 (.str "missing") && (PyData.canLay0 (.str c) && true)) = true
    rw [h1, show PyData.canLay0 (.str "missing") = true from by decide +kernel]; rfl
  | .alw, _ => by decide +kernel
  | .nev, _ => by decide +kernel
  | .and a b, h => by
    have h1 := lay_t a fun c hc => h c (List.mem_append_left _ hc)
    have h2 := lay_t b fun c hc => h c (List.mem_append_right _ hc)
    show (PyData.canLay0 (.str "and") && ((tP a).canLay0 && ((tP b).canLay0 && true))) = true
    rw [h1, h2, show PyData.canLay0 (.str "and") = true from by decide +kernel]; rfl
  | .or a b, h => by
    have h1 := lay_t a fun c hc => h c (List.mem_append_left _ hc)
    have h2 := lay_t b fun c hc => h c (List.mem_append_right _ hc)
    show (PyData.canLay0 (.str "or") && ((tP a).canLay0 && ((tP b).canLay0 && true))) = true
    rw [h1, h2, show PyData.canLay0 (.str "or") = true from by decide +kernel]; rfl
  | .no a, h => by
    have h1 := lay_t a h
    show (PyData.canLay0 (.str "not") && ((tP a).canLay0 && true)) = true
    rw [h1, show PyData.canLay0 (.str "not") = true from by decide +kernel]; rfl
theorem deep_t : ∀ t : Tr, (tP t).depth ≤ t.deep + 2
  | .win c st => by
    have := deeps_s st
    simp only [tP, PyData.depth, PyData.depthAll, Tr.deep]
    omega
  | .miss c => by simp only [tP, PyData.depth, PyData.depthAll, Tr.deep]; omega
  | .alw => by simp only [tP, PyData.depth, PyData.depthAll, Tr.deep]; omega
  | .nev => by simp only [tP, PyData.depth, PyData.depthAll, Tr.deep]; omega
  | .and a b => by
    have := deep_t a
    have := deep_t b
    simp only [tP, PyData.depth, PyData.depthAll, Tr.deep]
    omega
  | .or a b => by
    have := deep_t a
    have := deep_t b
    simp only [tP, PyData.depth, PyData.depthAll, Tr.deep]
    omega
  | .no a => by
    have := deep_t a
    simp only [tP, PyData.depth, PyData.depthAll, Tr.deep]
    omega
/-- a tree that can be compared -/
structure Cmp (t : Tr) : Prop where
  nm : ∀ c ∈ t.cols, Nm c
  dp : t.deep ≤ 40
theorem Cmp.sh {t : Tr} (h : Cmp t) : SeqAt.shaped (tP t) = true := by
  have h2 := deep_t t
  have h3 := h.dp
  unfold SeqAt.shaped
  rw [lay_t t h.nm, decide_eq_true (by omega : (tP t).depth ≤ 64)]; rfl
theorem toPB_tr (t : Tr) (bx : List D) : D.toPB bx (tD t) = some (tP t) := by
  rw [← toP_t t]
  cases t <;> rfl
theorem eq_tr {t u : Tr} (h : Cmp t) (h' : Cmp u) (bx : List D) : eqD (tD t) (tD u) bx = OK (.bl (PyData.eqv (tP t) (tP u))) bx := by
  unfold eqD
  rw [toPB_tr, toPB_tr]
  exact if_pos ⟨h.sh, h'.sh⟩
theorem ne_tr {t u : Tr} (h : Cmp t) (h' : Cmp u) (bx : List D) : neD (tD t) (tD u) bx = OK (.bl (!PyData.eqv (tP t) (tP u))) bx := by
  unfold neD
  rw [toPB_tr, toPB_tr]
  exact if_pos ⟨h.sh, h'.sh⟩
theorem eqv_self {t : Tr} (h : Cmp t) : PyData.eqv (tP t) (tP t) = true := SeqAt.eqv_refl _ (lay_t t h.nm)
/-! ### tuples of names -/
theorem toPs_n : ∀ xs : List Str, D.toPs (xs.map D.str) = some (xs.map PyData.str)
  | [] => rfl
  | x :: xs => by
    have h := toPs_n xs
    show (match some (PyData.str x), D.toPs (xs.map .str) with | some p, some ps => some (p :: ps) | _, _ => none) = _
    rw [h]
    rfl
theorem lays_n : ∀ xs : List Str, (∀ x ∈ xs, Nm x) → PyData.canLayAll0 (xs.map PyData.str) = true
  | [], _ => rfl
  | x :: xs, h => by
    have h1 : PyData.canLay0 (.str x) = true := h x (List.mem_cons_self ..)
    show (PyData.canLay0 (.str x) && PyData.canLayAll0 (xs.map .str)) = true
    rw [h1, lays_n xs fun y hy => h y (List.mem_cons_of_mem _ hy)]; rfl
theorem deeps_n : ∀ xs : List Str, PyData.depthAll (xs.map PyData.str) = 0
  | [] => by simp only [List.map_nil, PyData.depthAll]
  | x :: xs => by simp only [List.map_cons, PyData.depthAll, PyData.depth, deeps_n xs]; rfl
theorem sh_n {xs : List Str} (h : ∀ x ∈ xs, Nm x) : SeqAt.shaped (.tuple (xs.map .str)) = true := by
  have h2 : (PyData.tuple (xs.map .str)).depth ≤ 64 := by simp only [PyData.depth, deeps_n]; omega
  unfold SeqAt.shaped
  rw [show (PyData.tuple (xs.map .str)).canLay0 = PyData.canLayAll0 (xs.map .str) from rfl, lays_n xs h, decide_eq_true h2]; rfl
theorem toPB_n (xs : List Str) (bx : List D) : D.toPB bx (.tup (xs.map .str)) = some (.tuple (xs.map .str)) := by
  show (D.tup (xs.map .str)).toP = _
  simp only [D.toP, toPs_n]
theorem ne_n {xs : List Str} (h : ∀ x ∈ xs, Nm x) (bx : List D) : neD (.tup (xs.map .str)) (.tup (xs.map .str)) bx = OK (.bl false) bx := by
  unfold neD
  rw [toPB_n]
  show (if SeqAt.shaped (.tuple (xs.map .str)) = true ∧ SeqAt.shaped (.tuple (xs.map .str)) = true then OK (.bl (!PyData.eqv (.tuple (xs.map .str)) (.tuple (xs.map .str)))) bx else .stk) = _
  rw [if_pos ⟨sh_n h, sh_n h⟩, SeqAt.eqv_refl (.tuple (xs.map .str)) (show PyData.canLayAll0 (xs.map .str) = true from lays_n xs h)]
  rfl
theorem sortU_mem {xs : List Str} {x : Str} (h : x ∈ DN.sortU xs) : x ∈ xs := by
  unfold DN.sortU at h
  exact (DN.dd_mem xs x).mp (List.mem_mergeSort.mp h)
theorem ev_sset {m : ME} {ρ : Sl} {bx : List D} {r : R} {xs : List Str} (h : m ρ bx = .ok r bx) (hr : r.d = .lst (xs.map .str)) (hl : xs.length < 63) : mCB (un1 tupD) (aCons (mSortSet m) aNil) ρ bx = .ok (.val (.tup ((DN.sortU xs).map .str))) bx := by
  have e : mSortSet m ρ bx = .ok (.new (.lst ((DN.sortU xs).map .str))) bx := by
    unfold mSortSet
    rw [h]
    simp only [Out.bind_ok]
    rw [hr]
    show (match strL (xs.map .str) with
      | some xs => if xs.length < 63 then Out.ok (R.new (.lst ((DN.sortU xs).map .str))) bx else .stk
      | none => .stk) = _
    rw [strL_map]
    simp only
    rw [if_pos hl]
  rw [ev_CB (ev_cons e ev_nil)]
  rfl
/-! ### dicts of values by names -/
theorem cl_o (b : Nat) (v : Option Int) : (oD v).cl b = true := by cases v <;> rfl
abbrev vD (kc : List Str) (ρ : Str → Option Int) : D := .dk (kc.map .inr) (kc.map fun c => oD (ρ c))
theorem cls_v (b : Nat) (ρ : Str → Option Int) : ∀ kc : List Str, D.cls b (kc.map fun c => oD (ρ c)) = true
  | [] => rfl
  | c :: kc => by
    show ((oD (ρ c)).cl b && D.cls b (kc.map fun c => oD (ρ c))) = true
    rw [cl_o, cls_v b ρ kc]; rfl
theorem cl_v (b : Nat) (ρ : Str → Option Int) (kc : List Str) : (vD kc ρ).cl b = true := cls_v b ρ kc
theorem getK_v (ρ : Str → Option Int) {c : Str} : ∀ kc : List Str, c ∈ kc → getK (.inr c) (kc.map .inr) (kc.map fun c => oD (ρ c)) = some (oD (ρ c))
  | x :: kc, h => by
    show (if (Sum.inr x : L2.Key) = .inr c then some (oD (ρ x)) else getK (.inr c) (kc.map .inr) (kc.map fun c => oD (ρ c))) = _
    by_cases e : x = c
    · subst e; rw [if_pos rfl]
    · rw [if_neg (fun z => e (by injection z))]
      exact getK_v ρ kc ((List.mem_cons.mp h).resolve_left fun z => e z.symm)
theorem look_v {ρ : Str → Option Int} {kc : List Str} {bx : List D} {c : Str} (h : c ∈ kc) : Look (vD kc ρ) bx ρ c := by
  show (match getK (.inr c) (kc.map .inr) (kc.map fun c => oD (ρ c)) with | some d => OK d bx | none => .stk) = _
  rw [getK_v ρ kc h]
theorem hasK_v {c : Str} : ∀ kc : List Str, c ∉ kc → hasK (.inr c) (kc.map .inr) = false
  | [], _ => rfl
  | x :: kc, h => by
    show (decide ((Sum.inr x : L2.Key) = .inr c) || hasK (.inr c) (kc.map .inr)) = false
    rw [hasK_v kc fun z => h (List.mem_cons_of_mem _ z), decide_eq_false fun z => h (by injection z with z; rw [z]; exact List.mem_cons_self ..)]
    rfl
theorem flat_o (v : Option Int) : ∃ w, flatD (oD v) = some w := by cases v <;> exact ⟨_, rfl⟩
theorem same_v (ρ : Str → Option Int) (kc : List Str) : ∀ ks : List Str, (∀ c ∈ ks, c ∈ kc) → sameIn (ks.map .inr) (ks.map fun c => oD (ρ c)) (kc.map .inr) (kc.map fun c => oD (ρ c)) = true
  | [], _ => rfl
  | c :: ks, h => by
    obtain ⟨w, hw⟩ := flat_o (ρ c)
    show ((match flatD (oD (ρ c)), (getK (.inr c) (kc.map .inr) (kc.map fun c => oD (ρ c))).bind flatD with
      | some v, some w => decide (v = w)
      | _, _ => false) && sameIn (ks.map .inr) (ks.map fun c => oD (ρ c)) (kc.map .inr) (kc.map fun c => oD (ρ c))) = true
    rw [getK_v ρ kc (h c (List.mem_cons_self ..)), Option.bind_some, hw, same_v ρ kc ks fun x hx => h x (List.mem_cons_of_mem _ hx)]
    simp
theorem dk_same (ρ : Str → Option Int) (kc : List Str) (bx : List D) : dkSame true (vD kc ρ) (vD kc ρ) bx = OK (.bl false) bx := by
  show (if (kc.map Sum.inr : List L2.Key).length = (kc.map Sum.inr : List L2.Key).length ∧ sameIn (kc.map .inr) (kc.map fun c => oD (ρ c)) (kc.map .inr) (kc.map fun c => oD (ρ c)) = true then OK (.bl (!true)) bx else .stk) = _
  rw [if_pos ⟨rfl, same_v ρ kc kc fun _ h => h⟩]
  rfl
theorem mrg_ok (ρ : Str → Option Int) : ∀ (cs kc : List Str), (kc ++ cs).Nodup → mrg (kc.map .inr) (kc.map fun c => oD (ρ c)) (cs.map fun c => ((.inr c : L2.Key), oD (ρ c))) = ((kc ++ cs).map .inr, (kc ++ cs).map fun c => oD (ρ c))
  | [], kc, _ => by rw [List.append_nil]; rfl
  | c :: cs, kc, h => by
    have hc : c ∉ kc := fun z => (List.nodup_append.mp h).2.2 c z c (List.mem_cons_self ..) rfl
    have e := mrg_ok ρ cs (kc ++ [c]) (by rw [List.append_assoc]; exact h)
    show mrg (newKs (.inr c) (kc.map .inr)) (newVs (.inr c) (oD (ρ c)) (kc.map .inr) (kc.map fun c => oD (ρ c))) (cs.map fun c => ((.inr c : L2.Key), oD (ρ c))) = _
    unfold newKs newVs
    rw [hasK_v kc hc]
    simp only [Bool.false_eq_true, if_false]
    rw [show (kc.map Sum.inr ++ [Sum.inr c] : List L2.Key) = (kc ++ [c]).map .inr by simp, show (kc.map (fun c => oD (ρ c)) ++ [oD (ρ c)]) = (kc ++ [c]).map (fun c => oD (ρ c)) by simp, e, List.append_assoc]
    rfl
theorem pairs_ok (ρ : Str → Option Int) : ∀ cs : List Str, pairsD (cs.map fun c => .tup [.str c, oD (ρ c)]) = some (cs.map fun c => ((.inr c : L2.Key), oD (ρ c)))
  | [] => rfl
  | c :: cs => by
    show (match some ((.inr c : L2.Key), oD (ρ c)), pairsD (cs.map fun c => .tup [.str c, oD (ρ c)]) with | some p, some ps => some (p :: ps) | _, _ => none) = _
    rw [pairs_ok ρ cs]
    rfl
theorem keys_v (kc : List Str) : (kc.map (Sum.inr : Str → L2.Key)).map kD = kc.map .str := by
  rw [List.map_map]; rfl
/-- dict([(c, values[c]) for c in list(values)[::-1]]) -/
theorem ev_turned {i j n : Nat} {ρ0 : Sl} {bx : List D} {kc : List Str} {ρ : Str → Option Int} (hi : ρ0[i]? = some (some (vD kc ρ))) (hij : j ≠ i) (hl : j < ρ0.length) (hn : kc.Nodup) (hz : kc.length ≤ 1000) :
    mCB (un1 dictP) (aCons (mComp (iSeq (mRev (mCB (un1 keysD) (aCons (mVar i) aNil)))) [j] (gN j) mYes (mTup (aCons (mVar j) (aCons (mBin dgD (mVar i) (mVar j)) aNil)))) aNil) ρ0 bx = .ok (.new (vD kc.reverse ρ)) bx := by
  have e1 : iSeq (mRev (mCB (un1 keysD) (aCons (mVar i) aNil))) ρ0 bx = .ok (kc.reverse.map .str) bx := by
    refine ev_iseq (r := .new (.lst (kc.reverse.map .str))) ?_ rfl
    have e2 : mCB (un1 keysD) (aCons (mVar i) aNil) ρ0 bx = .ok (.new (.lst (kc.map .str))) bx := by
      have e3 : mVar i ρ0 bx = .ok (.val (vD kc ρ)) bx := by unfold mVar; rw [hi]
      rw [ev_CB (ev_cons e3 ev_nil)]
      show Out.ok (R.new (.lst ((kc.map (Sum.inr : Str → L2.Key)).map kD))) bx = _
      rw [keys_v]
    unfold mRev
    rw [e2]
    show Out.ok (R.new (.lst (kc.map .str).reverse)) bx = _
    rw [List.map_reverse]
  have sl : ∀ c : Str, (ρ0.set j (some (.str c)))[i]? = some (some (vD kc ρ)) := fun c => by rw [List.getElem?_set_ne hij]; exact hi
  have e4 : mComp (iSeq (mRev (mCB (un1 keysD) (aCons (mVar i) aNil)))) [j] (gN j) mYes (mTup (aCons (mVar j) (aCons (mBin dgD (mVar i) (mVar j)) aNil))) ρ0 bx = .ok (.new (.lst (kc.reverse.map fun c => .tup [.str c, oD (ρ c)]))) bx := by
    unfold mComp
    rw [e1]
    show (compL _ _ _ (kc.reverse.map .str) (ρ0.set j none) bx []).bind _ = _
    rw [comp_filter D.str (fun _ => true) (fun c => .tup [.str c, oD (ρ c)]) (fun ρ' => ∃ o, ρ' = ρ0.set j o) kc.reverse (fun c hc ρ' ⟨o, eo⟩ => ?_) (ρ0.set j none) [] ⟨none, rfl⟩ (by simp; exact Nat.le_trans hz (by decide))]
    · simp only [List.nil_append, Out.bind_ok]
      rw [List.filter_eq_self.mpr fun _ _ => rfl]
    · subst eo
      refine ⟨ρ0.set j (some (.str c)), ?_, ⟨_, rfl⟩, rfl, fun _ => ?_⟩
      · show some ((ρ0.set j o).set j (some (.str c))) = _
        rw [List.set_set]
      · have h1 : mVar j (ρ0.set j (some (.str c))) bx = .ok (.val (.str c)) bx := by unfold mVar; rw [List.getElem?_set_self hl]
        have h2 : mVar i (ρ0.set j (some (.str c))) bx = .ok (.val (vD kc ρ)) bx := by unfold mVar; rw [sl]
        exact ev_tup2 h1 ((ev_bin h2 h1).trans (look_v (List.mem_reverse.mp hc)))
  rw [ev_CB (ev_cons e4 ev_nil)]
  show (match (some (kc.reverse.map fun c => D.tup [.str c, oD (ρ c)])).bind pairsD with | some ps => Out.ok (R.new (.dk (mrg [] [] ps).1 (mrg [] [] ps).2)) bx | none => .stk) = _
  rw [Option.bind_some, pairs_ok]
  have e5 := mrg_ok ρ kc.reverse [] (by rw [List.nil_append]; exact (List.reverse_perm kc).nodup_iff.mpr hn)
  simp only [List.nil_append] at e5
  show Out.ok (R.new (.dk (mrg [] [] _).1 (mrg [] [] _).2)) bx = _
  rw [show (mrg [] [] (kc.reverse.map fun c => ((.inr c : L2.Key), oD (ρ c)))) = (kc.reverse.map .inr, kc.reverse.map fun c => oD (ρ c)) from e5]
end Q0

set_option Elab.async false
set_option linter.all false
set_option maxRecDepth 100000
set_option maxHeartbeats 4000000
/-! QE: values drawn; a tree looked at. -/
namespace DL
open PySem
theorem ev_rng {j : Int} {ρ : Sl} {bx : List D} (h : -(2 ^ 62) ≤ j ∧ j < 2 ^ 62) : iRng1M (mC (.int j)) ρ bx = .ok (rng 0 j.toNat) bx := by
  show (if -(2 ^ 62) ≤ j ∧ j < 2 ^ 62 then Out.ok (rng 0 j.toNat) bx else .stk) = _
  rw [if_pos h]
end DL
namespace Q0
open PySem DL
section
variable {CA : Ly} {p : Pn} {k : Int} {rest : List D}
theorem get_p {p : Pn} {rest : List D} {x : D} : (pD p :: (rest ++ [x]))[rest.length + 1]? = some x := by simp
theorem set_p {p : Pn} {rest : List D} {x y : D} : (pD p :: (rest ++ [x])).set (rest.length + 1) y = pD p :: (rest ++ [y]) := by simp
theorem leave_new {n k : Nat} {m : MS} {ds : List D} {p p' : Pn} {rest : List D} {d : D} (h : m (ds.map some ++ List.replicate (n - ds.length) none) (pD p :: rest) = .rt (.val (.box (rest.length + 1))) (pD p' :: (rest ++ [d]))) (hr : Cr rest) (hcd : d.cl (rest.length + 1) = true) (hk : ds.length = k := by rfl) : ar k (body n m) ds (pD p :: rest) = .ok (.new d) (pD p' :: rest) := by
  have e := body_nw (ex := []) h (by simp) rfl get_p (by simpa using hr p') hcd hk
  simpa using e
theorem vD_snoc (kc : List Str) (ρ : Str → Option Int) {c : Str} (v : Option Int) (h : c ∉ kc) : vD (kc ++ [c]) (fun x => if x = c then v else ρ x) = .dk (kc.map .inr ++ [.inr c]) ((kc.map fun c => oD (ρ c)) ++ [oD v]) := by
  have e : kc.map (fun x => oD (if x = c then v else ρ x)) = kc.map fun x => oD (ρ x) := List.map_congr_left fun x hx => by
    have hne : x ≠ c := fun z => h (by rw [← z]; exact hx)
    rw [if_neg hne]
  show D.dk ((kc ++ [c]).map .inr) ((kc ++ [c]).map fun x => oD (if x = c then v else ρ x)) = _
  rw [List.map_append, List.map_append, e]
  simp
theorem setK_v {kc : List Str} {ρ : Str → Option Int} {c : Str} {v : Option Int} (h : c ∉ kc) (hz : kc.length ≤ 1000) : setK (.box (rest.length + 1)) (.str c) (oD v) (pD p :: (rest ++ [vD kc ρ])) = some (pD p :: (rest ++ [vD (kc ++ [c]) (fun x => if x = c then v else ρ x)])) := by
  show (match (pD p :: (rest ++ [vD kc ρ]))[rest.length + 1]? with
    | some (.dk ks ds) => if ks.length < sizeLine then some ((pD p :: (rest ++ [vD kc ρ])).set (rest.length + 1) (.dk (newKs (.inr c) ks) (newVs (.inr c) (oD v) ks ds))) else none
    | _ => none) = _
  rw [get_p]
  simp only
  rw [if_pos (by rw [List.length_map]; exact Nat.lt_of_le_of_lt hz (by decide))]
  unfold newKs newVs
  rw [hasK_v kc h]
  simp only [Bool.false_eq_true, if_false]
  rw [set_p, vD_snoc kc ρ v h]
abbrev V6 (x : D) (n : Nat) (o3 o4 o5 : Option D) : Sl := [some (.box 0), some x, some (.box n), o3, o4, o5]
abbrev m_vb (CA : Ly) : MS := (mSeq (mAsg (mF (r__law_draw CA) (aCons (mVar 0) (aCons (mC (.int 6)) aNil))) (gN 4))
   (mSeq (mAsg (mBin subI (mF (r__law_draw CA) (aCons (mVar 0) (aCons (mC (.int 17)) aNil))) (mC (.int 8))) (gN 5))
   (mSeq (mIfS (mTest (mBin eqD (mVar 4) (mC (.int 0)))) (mAsg (mC .non) (gN 5)) mSkip)
   (mSeq (mIfS (mTest (mBin eqD (mVar 4) (mC (.int 1)))) (mAsg (mBin ixD (mLst (aCons (mBin subI (mBin powI (mC (.int 10)) (mC (.int 12))) (mC (.int 1))) (aCons (mBin powI (mC (.int 10)) (mC (.int 12))) (aCons (mBin powI (mC (.int 10)) (mC (.int 29))) (aCons (mBin subI (mC (.int 0)) (mBin powI (mC (.int 10)) (mC (.int 29)))) aNil))))) (mF (r__law_draw CA) (aCons (mVar 0) (aCons (mC (.int 4)) aNil)))) (gN 5)) mSkip)
   (mSetK (mVar 5) (mVar 2) (mVar 3))))))
theorem vb_ok (CA : Ly) {x : D} {kc : List Str} {ρ : Str → Option Int} {c : Str} {o4 o5 : Option D} (hp : PO p k) (hk : k < 990000) (h : c ∉ kc) (hz : kc.length ≤ 1000) :
    ∃ (v : Option Int) (p' : Pn) (q4 q5 : Option D), m_vb CA (V6 x (rest.length + 1) (some (.str c)) o4 o5) (pD p :: (rest ++ [vD kc ρ])) = .nx (V6 x (rest.length + 1) (some (.str c)) q4 q5) (pD p' :: (rest ++ [vD (kc ++ [c]) (fun x => if x = c then v else ρ x)])) ∧ PO p' (k + 3) := by
  have hd := Drw_a CA
  obtain ⟨pick, p1, e1, a1, a2, h1⟩ := ev_draw hd (ρ := V6 x (rest.length + 1) (some (.str c)) o4 o5) (rest := rest ++ [vD kc ρ]) (m := mC (.int 6)) rfl rfl hp (by omega) (by decide) (by decide)
  have s1 := ev_asg (i := 4) e1
  obtain ⟨r2, p2, e2, b1, b2, h2⟩ := ev_draw hd (ρ := V6 x (rest.length + 1) (some (.str c)) (some (.int pick)) o5) (rest := rest ++ [vD kc ρ]) (m := mC (.int 17)) rfl rfl h1 (by omega) (by decide) (by decide)
  have s2 := ev_asg (i := 5) (ev_subI (m' := mC (.int 8)) (j := 8) e2 rfl)
  have fin : ∀ (v : Option Int) (p' : Pn) (q4 : Option D), mSetK (mVar 5) (mVar 2) (mVar 3) (V6 x (rest.length + 1) (some (.str c)) q4 (some (oD v))) (pD p' :: (rest ++ [vD kc ρ])) = .nx (V6 x (rest.length + 1) (some (.str c)) q4 (some (oD v))) (pD p' :: (rest ++ [vD (kc ++ [c]) (fun x => if x = c then v else ρ x)])) := fun v p' q4 => by
    have z := setK_v (p := p') (rest := rest) (ρ := ρ) (v := v) h hz
    unfold mSetK
    show (match setK (.box (rest.length + 1)) (.str c) (oD v) (pD p' :: (rest ++ [vD kc ρ])) with | some b3 => OutS.nx _ b3 | none => .stk) = _
    rw [z]
  obtain ⟨v3, hv3, s3⟩ : ∃ v3 : Option Int, True ∧ mIfS (mTest (mBin eqD (mVar 4) (mC (.int 0)))) (mAsg (mC .non) (gN 5)) mSkip (V6 x (rest.length + 1) (some (.str c)) (some (.int pick)) (some (.int (r2 - 8)))) (pD p2 :: (rest ++ [vD kc ρ])) = .nx (V6 x (rest.length + 1) (some (.str c)) (some (.int pick)) (some (oD v3))) (pD p2 :: (rest ++ [vD kc ρ])) := by
    have t : mTest (mBin eqD (mVar 4) (mC (.int 0))) (V6 x (rest.length + 1) (some (.str c)) (some (.int pick)) (some (.int (r2 - 8)))) (pD p2 :: (rest ++ [vD kc ρ])) = .ok (pick == 0) (pD p2 :: (rest ++ [vD kc ρ])) := rfl
    by_cases q : pick = 0
    · rw [show (pick == 0) = true by rw [q]; rfl] at t
      exact ⟨none, trivial, (ev_ifT t).trans rfl⟩
    · rw [show (pick == 0) = false from beq_eq_false_iff_ne.mpr q] at t
      exact ⟨some (r2 - 8), trivial, ev_no t⟩
  have t4 : mTest (mBin eqD (mVar 4) (mC (.int 1))) (V6 x (rest.length + 1) (some (.str c)) (some (.int pick)) (some (oD v3))) (pD p2 :: (rest ++ [vD kc ρ])) = .ok (pick == 1) (pD p2 :: (rest ++ [vD kc ρ])) := rfl
  by_cases q : pick = 1
  · rw [show (pick == 1) = true by rw [q]; rfl] at t4
    obtain ⟨j, p3, e3, c1, c2, h3⟩ := ev_draw hd (ρ := V6 x (rest.length + 1) (some (.str c)) (some (.int pick)) (some (oD v3))) (rest := rest ++ [vD kc ρ]) (m := mC (.int 4)) rfl rfl h2 (by omega) (by decide) (by decide)
    have el : mLst (aCons (mBin subI (mBin powI (mC (.int 10)) (mC (.int 12))) (mC (.int 1))) (aCons (mBin powI (mC (.int 10)) (mC (.int 12))) (aCons (mBin powI (mC (.int 10)) (mC (.int 29))) (aCons (mBin subI (mC (.int 0)) (mBin powI (mC (.int 10)) (mC (.int 29)))) aNil)))) (V6 x (rest.length + 1) (some (.str c)) (some (.int pick)) (some (oD v3))) (pD p2 :: (rest ++ [vD kc ρ])) = .ok (.new (.lst ([999999999999, 1000000000000, 100000000000000000000000000000, -100000000000000000000000000000].map .int))) (pD p2 :: (rest ++ [vD kc ρ])) :=
      ev_lst (ev_cons (r := .val (.int 999999999999)) (ev_subI (i := 1000000000000) (j := 1) (m' := mC (.int 1)) (ev_pow (a := 10) (b := 12) (by decide)) rfl) (ev_cons (r := .val (.int 1000000000000)) (ev_pow (a := 10) (b := 12) (by decide)) (ev_cons (r := .val (.int 100000000000000000000000000000)) (ev_pow (a := 10) (b := 29) (by decide)) (ev_cons (r := .val (.int (-100000000000000000000000000000))) (ev_subI (i := 0) (j := 100000000000000000000000000000) (m := mC (.int 0)) (b := pD p2 :: (rest ++ [vD kc ρ])) rfl (ev_pow (a := 10) (b := 29) (by decide))) ev_nil)))) (by decide)
    obtain ⟨v, _, e5, _⟩ := atI_map D.int (xs := [999999999999, 1000000000000, 100000000000000000000000000000, -100000000000000000000000000000]) c1 (by simpa using c2)
    have s4 := (ev_ifT (m' := mSkip) t4).trans (ev_asg (i := 5) ((ev_bin el e3).trans (ix_lst e5)))
    refine ⟨some v, p3, some (.int pick), some (oD (some v)), ?_, h3.mono (by omega)⟩
    refine (ev_seq s1).trans ?_
    refine (ev_seq s2).trans ((ev_seq s3).trans ((ev_seq s4).trans ?_))
    exact fin (some v) p3 (some (.int pick))
  · rw [show (pick == 1) = false from beq_eq_false_iff_ne.mpr q] at t4
    refine ⟨v3, p2, some (.int pick), some (oD v3), ?_, h2.mono (by omega)⟩
    refine (ev_seq s1).trans ?_
    refine (ev_seq s2).trans ((ev_seq s3).trans ((ev_seq (ev_no t4)).trans ?_))
    exact fin v3 p2 (some (.int pick))
theorem va_loop (CA : Ly) {x : D} : ∀ (cs kc : List Str) (ρ : Str → Option Int) (p : Pn) (k : Int) (o3 o4 o5 : Option D), (kc ++ cs).Nodup → (kc ++ cs).length ≤ 1000 → PO p k → k + 3 * cs.length < 990000 →
    ∃ (ρ' : Str → Option Int) (p' : Pn) (q3 q4 q5 : Option D), loop (gN 3) (m_vb CA) (cs.map .str) (V6 x (rest.length + 1) o3 o4 o5) (pD p :: (rest ++ [vD kc ρ])) = .nx (V6 x (rest.length + 1) q3 q4 q5) (pD p' :: (rest ++ [vD (kc ++ cs) ρ'])) ∧ PO p' (k + 3 * cs.length)
  | [], kc, ρ, p, k, o3, o4, o5, _, _, hp, _ => ⟨ρ, p, o3, o4, o5, by rw [List.append_nil]; rfl, by simpa using hp⟩
  | c :: cs, kc, ρ, p, k, o3, o4, o5, hn, hz, hp, hk => by
    have hc : c ∉ kc := fun z => (List.nodup_append.mp hn).2.2 c z c (List.mem_cons_self ..) rfl
    simp only [List.length_cons] at hk
    have hz2 : kc.length ≤ 1000 := by rw [List.length_append] at hz; omega
    obtain ⟨v, p1, q4, q5, e1, h1⟩ := vb_ok (rest := rest) CA (x := x) (ρ := ρ) (o4 := o4) (o5 := o5) hp (by omega) hc hz2
    obtain ⟨ρ', p2, y3, y4, y5, e2, h2⟩ := va_loop CA cs (kc ++ [c]) (fun x => if x = c then v else ρ x) p1 (k + 3) (some (.str c)) q4 q5 (by rw [List.append_assoc]; exact hn) (by rw [List.append_assoc]; exact hz) h1 (by omega)
    refine ⟨ρ', p2, y3, y4, y5, ?_, h2.mono (by simp only [List.length_cons]; omega)⟩
    rw [List.map_cons, loop_nx (ρ1 := V6 x (rest.length + 1) (some (.str c)) o4 o5) rfl e1, e2, List.append_assoc]
    rfl
theorem va_ok (CA : Ly) (hr : Cr rest) {cs : List Str} (hp : PO p k) (hk : k + 3 * cs.length < 990000) (hn : (("zz" : Str) :: cs).Nodup) (hz : cs.length ≤ 900) :
    ∃ (ρ : Str → Option Int) (p' : Pn), r__law_values CA [.box 0, .lst (cs.map .str)] (pD p :: rest) = .ok (.new (vD (("zz" : Str) :: cs) ρ)) (pD p' :: rest) ∧ PO p' (k + 3 * cs.length) := by
  obtain ⟨ρ, p', q3, q4, q5, e, h⟩ := va_loop (rest := rest) CA (x := .lst (cs.map .str)) cs ["zz"] (fun _ => some 5) p k none none none hn (by simp; omega) hp hk
  refine ⟨ρ, p', leave_new ?_ hr (cl_v _ _ _), h⟩
  show m__law_values CA [some (.box 0), some (.lst (cs.map .str)), none, none, none, none] (pD p :: rest) = _
  unfold m__law_values
  have s1 : mBox (mDisp1 (.inr "zz") (mC (.int 5))) 2 [some (.box 0), some (.lst (cs.map .str)), none, none, none, none] (pD p :: rest) = .nx (V6 (.lst (cs.map .str)) (rest.length + 1) none none none) (pD p :: (rest ++ [vD ["zz"] (fun _ => some 5)])) :=
    ev_box (d := vD ["zz"] (fun _ => some 5)) (b := pD p :: rest) rfl
  rw [ev_seq s1]
  have e2 : mFor (iSeq (mVar 1)) (gN 3) (m_vb CA) (V6 (.lst (cs.map .str)) (rest.length + 1) none none none) (pD p :: (rest ++ [vD ["zz"] (fun _ => some 5)])) = .nx (V6 (.lst (cs.map .str)) (rest.length + 1) q3 q4 q5) (pD p' :: (rest ++ [vD (("zz" : Str) :: cs) ρ])) := (ev_for (ds := cs.map .str) (b := pD p :: (rest ++ [vD ["zz"] (fun _ => some 5)])) rfl).trans e
  rw [ev_seq e2]
  rfl
/-! ### a tree looked at -/
abbrev L10 (cs : List Str) (t : Tr) (o4 o5 o6 o7 o8 : Option D) : Sl := [some (.box 0), some (.lst (cs.map .str)), some (tD t), some (fD t), o4, o5, o6, o7, o8, none]
abbrev m_la (CA : Ly) : MS := (mSeq (mAsg (mF (r__law_values CA) (aCons (mVar 0) (aCons (mVar 1) aNil))) (gN 5))
   (mSeq (mAsg (mCB (un1 dicD) (aCons (mVar 5) aNil)) (gN 6))
   (mSeq (mAsg (mCB (un1 dictP) (aCons (mComp (iSeq (mRev (mCB (un1 keysD) (aCons (mVar 5) aNil)))) (([("column", 9)] : List (PySem.Str × Nat)).map (·.2)) (gN 9) mYes (mTup (aCons (mVar 9) (aCons (mBin dgD (mVar 5) (mVar 9)) aNil)))) aNil)) (gN 7))
   (mSeq (mAsg (mLst (aCons (mCI 1 (r_Filter___call__ CA) 3 (aCons (mVar 5) aNil)) (aCons (mCI 1 (r_Filter___call__ CA) 3 (aCons (mVar 7) aNil)) aNil))) (gN 8))
   (mIfS (mOr (mTest (mBin neS (mCB (un1 reprA) (aCons (mVar 8) aNil)) (mCB (un1 reprA) (aCons (mBin mulL (mLst (aCons (mF (r__law_word CA) (aCons (mF (r__law_numbered CA 24) (aCons (mVar 2) (aCons (mVar 5) aNil))) aNil)) aNil)) (mC (.int 2))) aNil)))) (mTest (mBin (dkSame true) (mVar 5) (mVar 6)))) (mRet (mC (.bl false))) mSkip)))))
theorem wd_ok (CA : Ly) (v : Option Bool) (bx : List D) : r__law_word CA [.int (numb v)] bx = .ok (.val (dB v)) bx := by
  rcases v with _ | _ | _ <;> exact run_rt rfl
theorem repr_two (v : Option Bool) (bx : List D) : ∃ s : Str, SeqAt.shaped (.str s) = true ∧ reprA (.lst [dB v, dB v]) bx = .ok (.val (.str s)) bx := by
  have go : ∀ p : PyData, D.toPB bx (.lst [dB v, dB v]) = some p → (p.showable = true ∧ p.hasDict = false ∧ p.depth < 63 ∧ p.shown.length ≤ sizeLine) → SeqAt.shaped (.str p.shown) = true → ∃ s : Str, SeqAt.shaped (.str s) = true ∧ reprA (.lst [dB v, dB v]) bx = .ok (.val (.str s)) bx := fun p h1 h2 h3 => by
    refine ⟨p.shown, h3, ?_⟩
    unfold reprA
    rw [h1]
    exact if_pos h2
  rcases v with _ | _ | _
  · exact go (.list [.none, .none]) rfl (by decide +kernel) (by decide +kernel)
  · exact go (.list [.bool false, .bool false]) rfl (by decide +kernel) (by decide +kernel)
  · exact go (.list [.bool true, .bool true]) rfl (by decide +kernel) (by decide +kernel)
theorem la_ok (CA : Ly) (hr : Cr rest) {cs : List Str} {t : Tr} {o4 o5 o6 o7 o8 : Option D} (hp : PO p k) (hk : k + 3 * cs.length < 980000) (hn : (("zz" : Str) :: cs).Nodup) (hz : cs.length ≤ 900) (hw : Fw 24 62 t) (hc : ∀ c ∈ t.cols, c ∈ cs) :
    ∃ (p' : Pn) (q5 q6 q7 q8 : Option D), m_la CA (L10 cs t o4 o5 o6 o7 o8) (pD p :: rest) = .nx (L10 cs t o4 q5 q6 q7 q8) (pD p' :: rest) ∧ PO p' (k + 3 * cs.length) := by
  obtain ⟨ρ, p1, e1, h1⟩ := va_ok CA hr hp (by omega) hn hz
  let kc : List Str := ("zz" : Str) :: cs
  have s1 : mAsg (mF (r__law_values CA) (aCons (mVar 0) (aCons (mVar 1) aNil))) (gN 5) (L10 cs t o4 o5 o6 o7 o8) (pD p :: rest) = .nx (L10 cs t o4 (some (vD kc ρ)) o6 o7 o8) (pD p1 :: rest) :=
    ev_asg (i := 5) ((ev_F (ev_cons (r := .val (.box 0)) (b := pD p :: rest) rfl (ev_cons (r := .val (.lst (cs.map .str))) (b := pD p :: rest) rfl ev_nil))).trans e1)
  have s2 : mAsg (mCB (un1 dicD) (aCons (mVar 5) aNil)) (gN 6) (L10 cs t o4 (some (vD kc ρ)) o6 o7 o8) (pD p1 :: rest) = .nx (L10 cs t o4 (some (vD kc ρ)) (some (vD kc ρ)) o7 o8) (pD p1 :: rest) :=
    ev_asg (i := 6) (r := .new (vD kc ρ)) (by rw [ev_CB (ev_cons (r := .val (vD kc ρ)) (b := pD p1 :: rest) rfl ev_nil)]; rfl)
  have s3 : mAsg (mCB (un1 dictP) (aCons (mComp (iSeq (mRev (mCB (un1 keysD) (aCons (mVar 5) aNil)))) (([("column", 9)] : List (PySem.Str × Nat)).map (·.2)) (gN 9) mYes (mTup (aCons (mVar 9) (aCons (mBin dgD (mVar 5) (mVar 9)) aNil)))) aNil)) (gN 7) (L10 cs t o4 (some (vD kc ρ)) (some (vD kc ρ)) o7 o8) (pD p1 :: rest) = .nx (L10 cs t o4 (some (vD kc ρ)) (some (vD kc ρ)) (some (vD kc.reverse ρ)) o8) (pD p1 :: rest) :=
    ev_asg (i := 7) (r := .new (vD kc.reverse ρ)) (ev_turned (i := 5) (j := 9) (n := 0) rfl (by decide) (by show 9 < 10; decide) hn (by simp [kc]; omega))
  have l1 : ∀ c ∈ t.cols, Look (vD kc ρ) (pD p1 :: rest) ρ c := fun c h => look_v (List.mem_cons_of_mem _ (hc c h))
  have l2 : ∀ c ∈ t.cols, Look (vD kc.reverse ρ) (pD p1 :: rest) ρ c := fun c h => look_v (List.mem_reverse.mpr (List.mem_cons_of_mem _ (hc c h)))
  have s4 : mAsg (mLst (aCons (mCI 1 (r_Filter___call__ CA) 3 (aCons (mVar 5) aNil)) (aCons (mCI 1 (r_Filter___call__ CA) 3 (aCons (mVar 7) aNil)) aNil))) (gN 8) (L10 cs t o4 (some (vD kc ρ)) (some (vD kc ρ)) (some (vD kc.reverse ρ)) o8) (pD p1 :: rest) = .nx (L10 cs t o4 (some (vD kc ρ)) (some (vD kc ρ)) (some (vD kc.reverse ρ)) (some (.lst [dB (says ρ t), dB (says ρ t)]))) (pD p1 :: rest) := by
    have c1 : mCI 1 (r_Filter___call__ CA) 3 (aCons (mVar 5) aNil) (L10 cs t o4 (some (vD kc ρ)) (some (vD kc ρ)) (some (vD kc.reverse ρ)) o8) (pD p1 :: rest) = .ok (.val (dB (says ρ t))) (pD p1 :: rest) := by
      rw [ev_CI (CA := CA) (t := t) rfl (ev_cons (r := .val (vD kc ρ)) (b := pD p1 :: rest) rfl ev_nil)]
      simp only [R.d]
      rw [f_call CA (hr p1) hw l1]; rfl
    have c2 : mCI 1 (r_Filter___call__ CA) 3 (aCons (mVar 7) aNil) (L10 cs t o4 (some (vD kc ρ)) (some (vD kc ρ)) (some (vD kc.reverse ρ)) o8) (pD p1 :: rest) = .ok (.val (dB (says ρ t))) (pD p1 :: rest) := by
      rw [ev_CI (CA := CA) (t := t) rfl (ev_cons (r := .val (vD kc.reverse ρ)) (b := pD p1 :: rest) rfl ev_nil)]
      simp only [R.d]
      rw [f_call CA (hr p1) hw l2]; rfl
    exact ev_asg (i := 8) (r := .new (.lst [dB (says ρ t), dB (says ρ t)])) (ev_lst (ev_cons c1 (ev_cons c2 ev_nil)))
  obtain ⟨s, hs, er⟩ := repr_two (says ρ t) (pD p1 :: rest)
  have t1 : mTest (mBin neS (mCB (un1 reprA) (aCons (mVar 8) aNil)) (mCB (un1 reprA) (aCons (mBin mulL (mLst (aCons (mF (r__law_word CA) (aCons (mF (r__law_numbered CA 24) (aCons (mVar 2) (aCons (mVar 5) aNil))) aNil)) aNil)) (mC (.int 2))) aNil))) (L10 cs t o4 (some (vD kc ρ)) (some (vD kc ρ)) (some (vD kc.reverse ρ)) (some (.lst [dB (says ρ t), dB (says ρ t)]))) (pD p1 :: rest) = .ok false (pD p1 :: rest) := by
    have d1 : mCB (un1 reprA) (aCons (mVar 8) aNil) (L10 cs t o4 (some (vD kc ρ)) (some (vD kc ρ)) (some (vD kc.reverse ρ)) (some (.lst [dB (says ρ t), dB (says ρ t)]))) (pD p1 :: rest) = .ok (.val (.str s)) (pD p1 :: rest) := by
      rw [ev_CB (ev_cons (r := .val (.lst [dB (says ρ t), dB (says ρ t)])) (b := pD p1 :: rest) rfl ev_nil)]; exact er
    have d2 : mF (r__law_numbered CA 24) (aCons (mVar 2) (aCons (mVar 5) aNil)) (L10 cs t o4 (some (vD kc ρ)) (some (vD kc ρ)) (some (vD kc.reverse ρ)) (some (.lst [dB (says ρ t), dB (says ρ t)]))) (pD p1 :: rest) = .ok (.val (.int (numb (says ρ t)))) (pD p1 :: rest) :=
      (ev_F (ev_cons (r := .val (tD t)) (b := pD p1 :: rest) rfl (ev_cons (r := .val (vD kc ρ)) (b := pD p1 :: rest) rfl ev_nil))).trans (num_ok CA 24 t hw.deep hw.ok l1)
    have d3 : mBin mulL (mLst (aCons (mF (r__law_word CA) (aCons (mF (r__law_numbered CA 24) (aCons (mVar 2) (aCons (mVar 5) aNil))) aNil)) aNil)) (mC (.int 2)) (L10 cs t o4 (some (vD kc ρ)) (some (vD kc ρ)) (some (vD kc.reverse ρ)) (some (.lst [dB (says ρ t), dB (says ρ t)]))) (pD p1 :: rest) = .ok (.new (.lst [dB (says ρ t), dB (says ρ t)])) (pD p1 :: rest) :=
      (ev_bin (r := .new (.lst [dB (says ρ t)])) (r' := .val (.int 2)) (b := pD p1 :: rest) (b' := pD p1 :: rest) (ev_lst (ev_cons ((ev_F (ev_cons d2 ev_nil)).trans (wd_ok CA _ _)) ev_nil)) rfl).trans (by
        show (if -(2 ^ 63) ≤ (2 : Int) ∧ (2 : Int) < 2 ^ 63 ∧ 1 * (2 : Int).toNat ≤ sizeLine then Out.ok (R.new (.lst (List.replicate (2 : Int).toNat [dB (says ρ t)]).flatten)) (pD p1 :: rest) else .stk) = _
        rw [if_pos (by decide)]
        rfl)
    have d4 : mCB (un1 reprA) (aCons (mBin mulL (mLst (aCons (mF (r__law_word CA) (aCons (mF (r__law_numbered CA 24) (aCons (mVar 2) (aCons (mVar 5) aNil))) aNil)) aNil)) (mC (.int 2))) aNil) (L10 cs t o4 (some (vD kc ρ)) (some (vD kc ρ)) (some (vD kc.reverse ρ)) (some (.lst [dB (says ρ t), dB (says ρ t)]))) (pD p1 :: rest) = .ok (.val (.str s)) (pD p1 :: rest) := by
      rw [ev_CB (ev_cons d3 ev_nil)]; exact er
    exact ev_test ((ev_bin d1 d4).trans (by show OK (.bl (s.cps.toList != s.cps.toList)) _ = _; simp))
  have t2 : mTest (mBin (dkSame true) (mVar 5) (mVar 6)) (L10 cs t o4 (some (vD kc ρ)) (some (vD kc ρ)) (some (vD kc.reverse ρ)) (some (.lst [dB (says ρ t), dB (says ρ t)]))) (pD p1 :: rest) = .ok false (pD p1 :: rest) :=
    ev_test ((ev_bin (r := .val (vD kc ρ)) (r' := .val (vD kc ρ)) (b := pD p1 :: rest) (b' := pD p1 :: rest) rfl rfl).trans (dk_same ρ kc _))
  refine ⟨p1, some (vD kc ρ), some (vD kc ρ), some (vD kc.reverse ρ), some (.lst [dB (says ρ t), dB (says ρ t)]), ?_, h1⟩
  exact (ev_seq s1).trans ((ev_seq s2).trans ((ev_seq s3).trans ((ev_seq s4).trans (ev_no ((ev_orF t1).trans t2)))))
theorem la_loop (CA : Ly) (hr : Cr rest) {cs : List Str} {t : Tr} (hn : (("zz" : Str) :: cs).Nodup) (hz : cs.length ≤ 900) (hw : Fw 24 62 t) (hc : ∀ c ∈ t.cols, c ∈ cs) : ∀ (ds : List D) (p : Pn) (k : Int) (o4 o5 o6 o7 o8 : Option D), PO p k → k + (3 * cs.length * ds.length : Nat) + 3 * cs.length < 980000 →
    ∃ (p' : Pn) (q4 q5 q6 q7 q8 : Option D), loop (gN 4) (m_la CA) ds (L10 cs t o4 o5 o6 o7 o8) (pD p :: rest) = .nx (L10 cs t q4 q5 q6 q7 q8) (pD p' :: rest) ∧ PO p' (k + (3 * cs.length * ds.length : Nat))
  | [], p, k, o4, o5, o6, o7, o8, hp, _ => ⟨p, o4, o5, o6, o7, o8, rfl, by simpa using hp⟩
  | d :: ds, p, k, o4, o5, o6, o7, o8, hp, hk => by
    have em : 3 * cs.length * (ds.length + 1) = 3 * cs.length * ds.length + 3 * cs.length := Nat.mul_succ _ _
    simp only [List.length_cons] at hk ⊢
    rw [em] at hk ⊢
    obtain ⟨p1, q5, q6, q7, q8, e1, h1⟩ := la_ok CA hr (o4 := some d) (o5 := o5) (o6 := o6) (o7 := o7) (o8 := o8) hp (by omega) hn hz hw hc
    obtain ⟨p2, y4, y5, y6, y7, y8, e2, h2⟩ := la_loop CA hr hn hz hw hc ds p1 (k + 3 * cs.length) (some d) q5 q6 q7 q8 h1 (by omega)
    exact ⟨p2, y4, y5, y6, y7, y8, (loop_nx (ρ1 := L10 cs t (some d) o5 o6 o7 o8) rfl e1).trans e2, h2.mono (by omega)⟩
theorem looked_ok (CA : Ly) (hr : Cr rest) {cs : List Str} {t : Tr} (hp : PO p k) (hk : k < 900000) (hn : (("zz" : Str) :: cs).Nodup) (hz : cs.length ≤ 10) (ht : TV (· ∈ cs) 24 62 t) (hN : ∀ c ∈ cs, Nm c) :
    ∃ p' : Pn, r__law_looked_at CA [.box 0, .lst (cs.map .str), tD t] (pD p :: rest) = .ok (.val (.bl true)) (pD p' :: rest) ∧ PO p' (k + 150) := by
  have hw := ht.fw (Nat.le_refl _) (Nat.le_refl _)
  have hcm : Cmp t := ⟨fun c hc => hN c (ht.cols c hc), Nat.le_trans ht.deep (by decide)⟩
  have s1 : mAsg (mF (r__law_built CA 24) (aCons (mVar 2) aNil)) (gN 3) [some (.box 0), some (.lst (cs.map .str)), some (tD t), none, none, none, none, none, none, none] (pD p :: rest) = .nx (L10 cs t none none none none none) (pD p :: rest) :=
    ev_asg (i := 3) ((ev_F (ev_cons (r := .val (tD t)) (b := pD p :: rest) rfl ev_nil)).trans (bu_ok CA (hr p) 24 t ht.deep hw ht.cn))
  have t1 : mTest (mBin neD (mUn (fldD "tree" [1]) (mVar 3)) (mVar 2)) (L10 cs t none none none none none) (pD p :: rest) = .ok false (pD p :: rest) :=
    ev_test ((ev_bin (tree_v (t := t) rfl) (r' := .val (tD t)) (b' := pD p :: rest) rfl).trans ((ne_tr hcm hcm _).trans (by rw [eqv_self hcm]; rfl)))
  obtain ⟨r, er, er2⟩ := lc_ok (bx := pD p :: rest) CA 24 t ht.deep (by have := hw.cols; omega)
  have t2 : mTest (mBin neD (mUn (fldD "columns" [1]) (mVar 3)) (mCB (un1 tupD) (aCons (mSortSet (mF (r__law_columns CA 24) (aCons (mVar 2) aNil))) aNil))) (L10 cs t none none none none none) (pD p :: rest) = .ok false (pD p :: rest) := by
    have e1 : mUn (fldD "columns" [1]) (mVar 3) (L10 cs t none none none none none) (pD p :: rest) = .ok (.val (.tup ((DN.sortU t.cols).map .str))) (pD p :: rest) := by
      rw [ev_un (r := .val (fD t)) (b := pD p :: rest) rfl]; rfl
    have e2 := ev_sset (m := mF (r__law_columns CA 24) (aCons (mVar 2) aNil)) (ρ := L10 cs t none none none none none) ((ev_F (ev_cons (r := .val (tD t)) (b := pD p :: rest) rfl ev_nil)).trans er) er2 (Nat.lt_of_le_of_lt hw.cols (by decide))
    exact ev_test ((ev_bin e1 e2).trans (ne_n (fun x hx => hcm.nm x (sortU_mem hx)) _))
  obtain ⟨p', q4, q5, q6, q7, q8, e3, h3⟩ := la_loop CA hr hn (by omega) hw ht.cols (rng 0 5) p k none none none none none hp (by rw [show (rng 0 5).length = 5 from rfl]; omega)
  have t3 : mFor (iRng1M (mC (.int 5))) (gN 4) (m_la CA) (L10 cs t none none none none none) (pD p :: rest) = .nx (L10 cs t q4 q5 q6 q7 q8) (pD p' :: rest) := (ev_for (ds := rng 0 5) (b := pD p :: rest) (ev_rng (by decide))).trans e3
  refine ⟨p', run_rt ?_, h3.mono (by rw [show (rng 0 5).length = 5 from rfl]; omega)⟩
  show m__law_looked_at CA [some (.box 0), some (.lst (cs.map .str)), some (tD t), none, none, none, none, none, none, none] (pD p :: rest) = _
  unfold m__law_looked_at
  rw [ev_seq s1, ev_seq (ev_no ((ev_orF t1).trans t2)), ev_seq t3]
  refine ev_ret ?_
  exact (ev_bin (tree_v (t := t) rfl) (r' := .val (tD t)) (b' := pD p' :: rest) rfl).trans ((eq_tr hcm hcm _).trans (by rw [eqv_self hcm]))
end
end Q0

set_option Elab.async false
set_option linter.all false
set_option maxRecDepth 100000
set_option maxHeartbeats 4000000
/-! QP: the first part. -/
namespace DL
open PySem
theorem er_mapS {α β : Type} (f : α → β) : ∀ (l : List α) (j : Nat), (l.map f).eraseIdx j = (l.eraseIdx j).map f
  | [], _ => rfl
  | _ :: _, 0 => rfl
  | a :: l, j + 1 => by
    rw [List.map_cons, List.eraseIdx_cons_succ, List.eraseIdx_cons_succ, List.map_cons, er_mapS f l j]
theorem er_perm {α : Type} : ∀ (l : List α) (j : Nat) (h : j < l.length), (l.eraseIdx j ++ [l[j]]).Perm l
  | a :: l, 0, _ => by
    rw [List.eraseIdx_cons_zero]
    exact (List.perm_append_comm (l₁ := l) (l₂ := [a]))
  | a :: l, j + 1, h => by
    have h' : j < l.length := by simpa using h
    rw [List.eraseIdx_cons_succ, List.getElem_cons_succ, List.cons_append]
    exact (er_perm l j h').cons a
end DL
namespace Q0
open PySem DL
theorem c_pen (CA : Ly) (ns : List Int) (hn : ns.length ≤ 63) (bx : List D) : ∃ p : Pn, r__law_pen CA [.rol (ns.map .int)] bx = .ok (.new (pD p)) bx ∧ PO p 0 := by
  refine ⟨⟨(ns.drop (HT.sIx ns.length 0 none)).take (HT.sIx ns.length ns.length (some 63) - HT.sIx ns.length 0 none), 0, 0⟩, ?_, ⟨Int.le_refl _, Int.le_refl _, ?_⟩⟩
  · refine (ar_ok rfl).trans (body_rt (b := bx) ?_ rfl)
    show m__law_pen CA [some (.rol (ns.map .int))] bx = _
    unfold m__law_pen
    refine ev_ret ?_
    have e1 : mCB (un1 listD) (aCons (mSlice (mVar 0) pNone (pSome (mC (.int 63)))) aNil) [some (.rol (ns.map .int))] bx = .ok (.new (.lst (((ns.drop (HT.sIx ns.length 0 none)).take (HT.sIx ns.length ns.length (some 63) - HT.sIx ns.length 0 none)).map .int))) bx := by
      have e2 : mSlice (mVar 0) pNone (pSome (mC (.int 63))) [some (.rol (ns.map .int))] bx = .ok (.new (.lst (cutD (ns.map .int) none (some 63)))) bx := rfl
      rw [ev_CB (ev_cons e2 ev_nil)]
      show Out.ok (R.new (.lst (cutD (ns.map D.int) none (some 63)))) bx = _
      unfold cutD
      rw [List.length_map, List.map_take, List.map_drop]
    unfold mLst
    rw [ev_cons e1 (ev_cons (r := .val (.int 0)) (b := bx) rfl (ev_cons (r := .val (.int 0)) (b := bx) rfl ev_nil))]
    rfl
  · show ((ns.drop _).take _).length ≤ 63
    rw [List.length_take, List.length_drop]
    omega
/-- a draw, the pen in any slot -/
theorem ev_drawI {rd : MF} (hd : Drw rd) {ρ : Sl} {i : Nat} {p : Pn} {k many : Int} {rest : List D} {m : ME} (h0 : ρ[i]? = some (some (.box 0))) (hm : m ρ (pD p :: rest) = .ok (.val (.int many)) (pD p :: rest)) (hp : PO p k) (hk : k < 1000000) (h1 : 0 < many) (h2 : many < 1099511627776) :
    ∃ r p', mF rd (aCons (mVar i) (aCons m aNil)) ρ (pD p :: rest) = .ok (.val (.int r)) (pD p' :: rest) ∧ 0 ≤ r ∧ r < many ∧ PO p' (k + 1) := by
  obtain ⟨r, p', e, h⟩ := hd p k many rest hp hk h1 h2
  refine ⟨r, p', ?_, h⟩
  have e0 : mVar i ρ (pD p :: rest) = .ok (.val (.box 0)) (pD p :: rest) := by unfold mVar; rw [h0]
  rw [ev_F (ev_cons e0 (ev_cons hm ev_nil))]
  exact e
abbrev sL (xs : List Str) : D := .lst (xs.map .str)
theorem cb_strs (p : Pn) (js : List (List Str)) : Cb (pD p :: js.map sL) := by
  show ((pD p).cl _ && (js.map sL).all (D.cl _)) = true
  rw [cl_p, Bool.true_and, List.all_map, List.all_eq_true]
  intro xs _
  exact cls_str _ xs
theorem cr_strs (js : List (List Str)) : Cr (js.map sL) := fun p => cb_strs p js
abbrev m_pop (CA : Ly) : ME := mBm popD (mVar 2) (aCons (mF (r__law_draw CA) (aCons (mVar 1) (aCons (mCB (un1 lenD) (aCons (mVar 2) aNil)) aNil))) aNil)
theorem pop_ok (CA : Ly) {ρ : Sl} {p : Pn} {k : Int} {rest : List D} {left : List Str} (h1 : ρ[1]? = some (some (.box 0))) (h2 : ρ[2]? = some (some (.box (rest.length + 1)))) (hp : PO p k) (hk : k < 990000) (hne : left ≠ []) (hl : left.length ≤ 1000) :
    ∃ (c : Str) (left' : List Str) (p' : Pn), m_pop CA ρ (pD p :: (rest ++ [sL left])) = .ok (.val (.str c)) (pD p' :: (rest ++ [sL left'])) ∧ (left' ++ [c]).Perm left ∧ PO p' (k + 1) := by
  have hd := Drw_a CA
  have hpos : 0 < left.length := List.length_pos_iff.mpr hne
  have v2 : ∀ q : List D, mVar 2 ρ q = .ok (.val (.box (rest.length + 1))) q := fun q => by unfold mVar; rw [h2]
  have elen : mCB (un1 lenD) (aCons (mVar 2) aNil) ρ (pD p :: (rest ++ [sL left])) = .ok (.val (.int left.length)) (pD p :: (rest ++ [sL left])) := by
    rw [ev_CB (ev_cons (v2 _) ev_nil)]
    show (match (match (match (pD p :: (rest ++ [sL left]))[rest.length + 1]? with | some (.lst ds) => some ds | _ => none) with | some ds => some ds | none => none) with | some ds => OK (.int (ds.length : Nat)) (pD p :: (rest ++ [sL left])) | none => .stk) = _
    rw [get_p]
    simp only [List.length_map]
  obtain ⟨i, p1, e1, b1, b2, h3⟩ := ev_drawI hd (ρ := ρ) (i := 1) (rest := rest ++ [sL left]) h1 elen hp (by omega) (by omega) (by omega)
  have hi : i.toNat < left.length := by omega
  refine ⟨left[i.toNat], left.eraseIdx i.toNat, p1, ?_, er_perm left _ hi, h3⟩
  unfold m_pop mBm
  rw [v2]
  show (match (match (pD p :: (rest ++ [sL left]))[rest.length + 1]? with | some (.lst ds) => some ds | _ => none) with | some _ => ((aCons (mF (r__law_draw CA) (aCons (mVar 1) (aCons (mCB (un1 lenD) (aCons (mVar 2) aNil)) aNil))) aNil) ρ (pD p :: (rest ++ [sL left]))).bind fun ds b1 => popD (.box (rest.length + 1)) ds b1 | none => .stk) = _
  rw [get_p]
  simp only
  rw [ev_cons e1 ev_nil]
  show (match (pD p1 :: (rest ++ [sL left]))[rest.length + 1]? with
    | some (.lst xs) => if -(2 ^ 63) ≤ i ∧ i < 2 ^ 63 then (match seqIndex? i xs.length with
      | some k => (match xs[k]? with
        | some y => OK y ((pD p1 :: (rest ++ [sL left])).set (rest.length + 1) (.lst (xs.eraseIdx k)))
        | none => .stk)
      | none => .stk) else .stk
    | _ => .stk) = _
  rw [get_p]
  simp only
  rw [if_pos ⟨by omega, by omega⟩, List.length_map, seqIndex_of b1 b2]
  simp only [List.getElem?_map, List.getElem?_eq_getElem hi, Option.map_some]
  rw [er_mapS, set_p]
theorem cp_ok (CA : Ly) {ρ : Sl} {rest : List D} (h1 : ∀ d : D, (ρ.set 7 (some d))[1]? = some (some (.box 0))) (h2 : ∀ d : D, (ρ.set 7 (some d))[2]? = some (some (.box (rest.length + 1)))) : ∀ (ds : List D) (left acc : List Str) (p : Pn) (k : Int), ds.length ≤ left.length → left.length ≤ 1000 → acc.length + ds.length ≤ 1000 → PO p k → k + ds.length < 990000 →
    ∃ (left' cs : List Str) (p' : Pn), compL (gN 7) mYes (m_pop CA) ds ρ (pD p :: (rest ++ [sL left])) (acc.map .str) = .ok ((acc ++ cs).map .str) (pD p' :: (rest ++ [sL left'])) ∧ cs.length = ds.length ∧ (left' ++ cs).Perm left ∧ PO p' (k + ds.length)
  | [], left, acc, p, k, _, _, _, hp, _ => ⟨left, [], p, by rw [List.append_nil]; rfl, rfl, by rw [List.append_nil], by simpa using hp⟩
  | d :: ds, left, acc, p, k, hn, hl, ha, hp, hk => by
    simp only [List.length_cons] at hn ha hk
    obtain ⟨c, left1, p1, e1, q1, g1⟩ := pop_ok CA (rest := rest) (h1 d) (h2 d) hp (by omega) (fun z => by rw [z] at hn; simp at hn) hl
    have hl1 := q1.length_eq
    rw [List.length_append, List.length_singleton] at hl1
    obtain ⟨left2, cs, p2, e2, l2, q2, g2⟩ := cp_ok CA h1 h2 ds left1 (acc ++ [c]) p1 (k + 1) (by omega) (by omega) (by rw [List.length_append, List.length_singleton]; omega) g1 (by omega)
    refine ⟨left2, c :: cs, p2, ?_, by simp [l2], ?_, g2.mono (by simp only [List.length_cons]; omega)⟩
    · unfold compL
      rw [show gN 7 d ρ = some (ρ.set 7 (some d)) from rfl]
      simp only [mYes, noX, Out.bind_ok, if_true]
      rw [e1]
      simp only [Out.bind_ok]
      rw [if_pos (by rw [List.length_map]; exact Nat.lt_of_le_of_lt (show acc.length ≤ 1000 by omega) (by decide))]
      rw [show (acc.map D.str ++ [(R.val (.str c)).d]) = (acc ++ [c]).map D.str by simp [R.d]]
      rw [show compL (gN 7) mYes (m_pop CA) ds ρ (pD p1 :: (rest ++ [sL left1])) ((acc ++ [c]).map D.str) = _ from e2]
      simp
    · refine List.Perm.trans ?_ q1
      rw [show left2 ++ c :: cs = (left2 ++ [c]) ++ cs by simp]
      refine List.Perm.trans ?_ (q2.append_right [c])
      rw [List.append_assoc, List.append_assoc]
      exact List.Perm.append_left _ List.perm_append_comm
def base8 : List Str := ["a", "b", "key", "in", "always", "missing", "r", "zzzzzzzz"]
theorem base_nd : (("zz" : Str) :: base8).Nodup := by decide +kernel
theorem base_nm : ∀ c ∈ base8, Nm c := by decide +kernel
abbrev P8 (x : D) (n : Nat) (o3 o4 o5 o6 : Option D) : Sl := [some x, some (.box 0), some (.box n), o3, o4, o5, o6, none]
abbrev m_p1b (CA : Ly) : MS := (mSeq (mAsg (mComp (iRng1M (mBin addI (mC (.int 1)) (mF (r__law_draw CA) (aCons (mVar 1) (aCons (mC (.int 4)) aNil))))) (([("turn", 7)] : List (PySem.Str × Nat)).map (·.2)) (gN 7) mYes (m_pop CA)) (gN 5))
   (mSeq (mAsg (mF (r__law_grown CA 21) (aCons (mVar 1) (aCons (mVar 5) (aCons (mBin addI (mC (.int 1)) (mF (r__law_draw CA) (aCons (mVar 1) (aCons (mVar 3) aNil)))) (aCons (mVar 4) aNil))))) (gN 6))
   (mSeq (mIfS (mNot (mTest (mF (r__law_looked_at CA) (aCons (mVar 1) (aCons (mVar 5) (aCons (mVar 6) aNil)))))) (mRet (mC (.bl false))) mSkip)
   (mBox (mBin addL (mVar 2) (mVar 5)) 2))))
theorem p1b_ok (CA : Ly) {x : D} {js : List (List Str)} {left : List Str} {p : Pn} {k : Int} {most deep : Nat} {o5 o6 : Option D} (hm : 1 ≤ most ∧ most ≤ 60) (hdp : 1 ≤ deep ∧ deep ≤ 20) (hq : left.Perm base8) (hp : PO p k) (hk : k < 800000) :
    ∃ (js' : List (List Str)) (left' : List Str) (p' : Pn) (q5 q6 : Option D), m_p1b CA (P8 x (js.length + 1) (some (.int most)) (some (.int deep)) o5 o6) (pD p :: (js ++ [left]).map sL) = .nx (P8 x (js'.length + 1) (some (.int most)) (some (.int deep)) q5 q6) (pD p' :: (js' ++ [left']).map sL) ∧ left'.Perm base8 ∧ PO p' (k + 20000) := by
  have hd := Drw_a CA
  have eb : ∀ (js : List (List Str)) (l : List Str), (js ++ [l]).map sL = js.map sL ++ [sL l] := fun js l => by rw [List.map_append]; rfl
  have ln : left.length = 8 := hq.length_eq
  rw [eb]
  obtain ⟨r1, p1, e1, a1, a2, h1⟩ := ev_drawI hd (ρ := P8 x (js.length + 1) (some (.int most)) (some (.int deep)) o5 o6) (i := 1) (rest := js.map sL ++ [sL left]) (m := mC (.int 4)) rfl rfl hp (by omega) (by decide) (by decide)
  have e2 := ev_addI (m := mC (.int 1)) (i := 1) (b := pD p :: (js.map sL ++ [sL left])) rfl e1
  have e3 : iRng1M (mBin addI (mC (.int 1)) (mF (r__law_draw CA) (aCons (mVar 1) (aCons (mC (.int 4)) aNil)))) (P8 x (js.length + 1) (some (.int most)) (some (.int deep)) o5 o6) (pD p :: (js.map sL ++ [sL left])) = .ok (rng 0 (1 + r1).toNat) (pD p1 :: (js.map sL ++ [sL left])) := by
    unfold iRng1M
    rw [e2]
    show (if -(2 ^ 62) ≤ 1 + r1 ∧ 1 + r1 < 2 ^ 62 then Out.ok (rng 0 (1 + r1).toNat) (pD p1 :: (js.map sL ++ [sL left])) else .stk) = _
    rw [if_pos (by omega)]
  have lr : (rng 0 (1 + r1).toNat).length = (1 + r1).toNat := rng_len
  obtain ⟨left1, cs, p2, e4, lc, pm, h2⟩ := cp_ok CA (ρ := P8 x (js.length + 1) (some (.int most)) (some (.int deep)) o5 o6) (rest := js.map sL) (fun _ => rfl) (fun _ => by rw [List.length_map]; rfl) (rng 0 (1 + r1).toNat) left [] p1 (k + 1) (by rw [lr]; omega) (by omega) (by rw [lr]; simp; omega) h1 (by rw [lr]; omega)
  rw [lr] at lc h2
  have s1 : mAsg (mComp (iRng1M (mBin addI (mC (.int 1)) (mF (r__law_draw CA) (aCons (mVar 1) (aCons (mC (.int 4)) aNil))))) (([("turn", 7)] : List (PySem.Str × Nat)).map (·.2)) (gN 7) mYes (m_pop CA)) (gN 5) (P8 x (js.length + 1) (some (.int most)) (some (.int deep)) o5 o6) (pD p :: (js.map sL ++ [sL left])) = .nx (P8 x (js.length + 1) (some (.int most)) (some (.int deep)) (some (sL cs)) o6) (pD p2 :: (js.map sL ++ [sL left1])) := by
    refine ev_asg (i := 5) (r := .new (sL cs)) ?_
    unfold mComp
    rw [e3]
    show (compL (gN 7) mYes (m_pop CA) (rng 0 (1 + r1).toNat) (P8 x (js.length + 1) (some (.int most)) (some (.int deep)) o5 o6) (pD p1 :: (js.map sL ++ [sL left])) []).bind _ = _
    have e4' : compL (gN 7) mYes (m_pop CA) (rng 0 (1 + r1).toNat) (P8 x (js.length + 1) (some (.int most)) (some (.int deep)) o5 o6) (pD p1 :: (js.map sL ++ [sL left])) [] = .ok (cs.map .str) (pD p2 :: (js.map sL ++ [sL left1])) := e4
    rw [e4']
    rfl
  have pb : (left1 ++ cs).Perm base8 := pm.trans hq
  have csb : ∀ c ∈ cs, c ∈ base8 := fun c hc => pb.mem_iff.mp (List.mem_append_right _ hc)
  have nd : (("zz" : Str) :: cs).Nodup := by
    have n1 := List.nodup_cons.mp base_nd
    refine List.nodup_cons.mpr ⟨fun z => n1.1 (csb _ z), ?_⟩
    exact (List.nodup_append.mp (pb.nodup_iff.mpr n1.2)).2.1
  have cne : cs ≠ [] := fun z => by rw [z] at lc; simp at lc; omega
  have cl10 : cs.length ≤ 10 := by rw [lc]; omega
  obtain ⟨r2, p3, e5, b1, b2, h3⟩ := ev_drawI hd (ρ := P8 x (js.length + 1) (some (.int most)) (some (.int deep)) (some (sL cs)) o6) (i := 1) (many := (most : Int)) (rest := js.map sL ++ [sL left1]) (m := mVar 3) rfl rfl h2 (by omega) (by omega) (by omega)
  obtain ⟨lf, hlf⟩ : ∃ lf : Nat, (lf : Int) = 1 + r2 := ⟨(1 + r2).toNat, by omega⟩
  have e6 : mBin addI (mC (.int 1)) (mF (r__law_draw CA) (aCons (mVar 1) (aCons (mVar 3) aNil))) (P8 x (js.length + 1) (some (.int most)) (some (.int deep)) (some (sL cs)) o6) (pD p2 :: (js.map sL ++ [sL left1])) = .ok (.val (.int lf)) (pD p3 :: (js.map sL ++ [sL left1])) := by
    rw [hlf]; exact ev_addI (m := mC (.int 1)) (i := 1) (b := pD p2 :: (js.map sL ++ [sL left1])) rfl e5
  have hmd : lf * deep ≤ 60 * 20 := Nat.mul_le_mul (by omega) hdp.2
  have crl : Cr (js.map sL ++ [sL left1]) := by rw [← eb]; exact cr_strs _
  obtain ⟨r, t, p4, e7, er, ht, h4⟩ := gr_ok CA crl cne (by omega) 21 lf deep p3 (k + 1 + ((1 + r1).toNat : Nat) + 1) (by omega) hdp.1 hdp.2 (by omega) (by omega) h3 (by omega)
  have s2 : mAsg (mF (r__law_grown CA 21) (aCons (mVar 1) (aCons (mVar 5) (aCons (mBin addI (mC (.int 1)) (mF (r__law_draw CA) (aCons (mVar 1) (aCons (mVar 3) aNil)))) (aCons (mVar 4) aNil))))) (gN 6) (P8 x (js.length + 1) (some (.int most)) (some (.int deep)) (some (sL cs)) o6) (pD p2 :: (js.map sL ++ [sL left1])) = .nx (P8 x (js.length + 1) (some (.int most)) (some (.int deep)) (some (sL cs)) (some (tD t))) (pD p4 :: (js.map sL ++ [sL left1])) := by
    rw [ev_asg (i := 6) ((ev_F (ev_cons (r := .val (.box 0)) (b := pD p2 :: (js.map sL ++ [sL left1])) rfl (ev_cons (r := .val (sL cs)) (b := pD p2 :: (js.map sL ++ [sL left1])) rfl (ev_cons e6 (ev_cons (r := .val (.int deep)) (b := pD p3 :: (js.map sL ++ [sL left1])) rfl ev_nil))))).trans e7), er]
    rfl
  obtain ⟨p5, e8, h5⟩ := looked_ok CA crl h4 (by omega) nd cl10 (ht.mono (by omega) (by omega)) (fun c hc => base_nm c (csb c hc))
  have t3 : mNot (mTest (mF (r__law_looked_at CA) (aCons (mVar 1) (aCons (mVar 5) (aCons (mVar 6) aNil))))) (P8 x (js.length + 1) (some (.int most)) (some (.int deep)) (some (sL cs)) (some (tD t))) (pD p4 :: (js.map sL ++ [sL left1])) = .ok false (pD p5 :: (js.map sL ++ [sL left1])) :=
    ev_not (k := true) (ev_test ((ev_F (ev_cons (r := .val (.box 0)) (b := pD p4 :: (js.map sL ++ [sL left1])) rfl (ev_cons (r := .val (sL cs)) (b := pD p4 :: (js.map sL ++ [sL left1])) rfl (ev_cons (r := .val (tD t)) (b := pD p4 :: (js.map sL ++ [sL left1])) rfl ev_nil)))).trans e8))
  have s4 : mBox (mBin addL (mVar 2) (mVar 5)) 2 (P8 x (js.length + 1) (some (.int most)) (some (.int deep)) (some (sL cs)) (some (tD t))) (pD p5 :: (js.map sL ++ [sL left1])) = .nx (P8 x ((js ++ [left1]).length + 1) (some (.int most)) (some (.int deep)) (some (sL cs)) (some (tD t))) (pD p5 :: ((js ++ [left1]) ++ [left1 ++ cs]).map sL) := by
    have ea : mBin addL (mVar 2) (mVar 5) (P8 x (js.length + 1) (some (.int most)) (some (.int deep)) (some (sL cs)) (some (tD t))) (pD p5 :: (js.map sL ++ [sL left1])) = .ok (.new (sL (left1 ++ cs))) (pD p5 :: (js.map sL ++ [sL left1])) := by
      rw [ev_bin (r := .val (.box (js.length + 1))) (r' := .val (sL cs)) (b := pD p5 :: (js.map sL ++ [sL left1])) (b' := pD p5 :: (js.map sL ++ [sL left1])) rfl rfl]
      have g := get_p (p := p5) (rest := js.map sL) (x := sL left1)
      rw [List.length_map] at g
      show (match (match (pD p5 :: (js.map sL ++ [sL left1]))[js.length + 1]? with | some (.lst ds) => some ds | _ => none), some (cs.map D.str) with
        | some xs, some ys => if xs.length + ys.length ≤ sizeLine then Out.ok (R.new (.lst (xs ++ ys))) (pD p5 :: (js.map sL ++ [sL left1])) else .stk
        | _, _ => .stk) = _
      rw [g]
      simp only
      have pl := pb.length_eq
      rw [List.length_append] at pl
      rw [if_pos (by rw [List.length_map, List.length_map, pl]; decide), ← List.map_append]
    rw [ev_box ea]
    rw [eb (js ++ [left1]), eb js]
    simp
  refine ⟨js ++ [left1], left1 ++ cs, p5, some (sL cs), some (tD t), ?_, pb, h5.mono (by omega)⟩
  exact (ev_seq s1).trans ((ev_seq s2).trans ((ev_seq (ev_no t3)).trans s4))
theorem p1_loop (CA : Ly) {x : D} : ∀ (qs : List (Nat × Nat)) (js : List (List Str)) (left : List Str) (p : Pn) (k : Int) (o3 o4 o5 o6 : Option D), (∀ q ∈ qs, (1 ≤ q.1 ∧ q.1 ≤ 60) ∧ 1 ≤ q.2 ∧ q.2 ≤ 20) → left.Perm base8 → PO p k → k + 20000 * qs.length < 800000 →
    ∃ (js' : List (List Str)) (left' : List Str) (p' : Pn) (q3 q4 q5 q6 : Option D), loop (gTup [(gN 3), (gN 4)]) (m_p1b CA) (qs.map fun q => .tup [.int q.1, .int q.2]) (P8 x (js.length + 1) o3 o4 o5 o6) (pD p :: (js ++ [left]).map sL) = .nx (P8 x (js'.length + 1) q3 q4 q5 q6) (pD p' :: (js' ++ [left']).map sL)
  | [], js, left, p, k, o3, o4, o5, o6, _, _, _, _ => ⟨js, left, p, o3, o4, o5, o6, rfl⟩
  | q :: qs, js, left, p, k, o3, o4, o5, o6, hq, hl, hp, hk => by
    simp only [List.length_cons] at hk
    obtain ⟨h1, h2⟩ := hq q (List.mem_cons_self ..)
    obtain ⟨js1, left1, p1, q5, q6, e1, pm, g1⟩ := p1b_ok CA (x := x) (js := js) (o5 := o5) (o6 := o6) h1 h2 hl hp (by omega)
    obtain ⟨js2, left2, p2, y3, y4, y5, y6, e2⟩ := p1_loop CA qs js1 left1 p1 (k + 20000) (some (.int q.1)) (some (.int q.2)) q5 q6 (fun z hz => hq z (List.mem_cons_of_mem _ hz)) pm g1 (by omega)
    exact ⟨js2, left2, p2, y3, y4, y5, y6, by rw [List.map_cons]; exact (loop_nx (ρ1 := P8 x (js.length + 1) (some (.int q.1)) (some (.int q.2)) o5 o6) rfl e1).trans e2⟩
theorem c_part_one (CA : Ly) (ns : List Int) (hn : ns.length ≤ 63) : r__law_part_one CA [.rol (ns.map .int)] [] = .ok (.val (.bl true)) [] := by
  obtain ⟨p, e1, h1⟩ := c_pen CA ns hn []
  have a1 : mBox (mF (r__law_pen CA) (aCons (mVar 0) aNil)) 1 [some (.rol (ns.map .int)), none, none, none, none, none, none, none] [] = .nx [some (.rol (ns.map .int)), some (.box 0), none, none, none, none, none, none] [pD p] :=
    ev_box (i := 1) ((ev_F (ev_cons (r := .val (.rol (ns.map .int))) (b := []) rfl ev_nil)).trans e1)
  have a2 : mBox (mLst (aCons (mC (.str "a")) (aCons (mC (.str "b")) (aCons (mC (.str "key")) (aCons (mC (.str "in")) (aCons (mC (.str "always")) (aCons (mC (.str "missing")) (aCons (mC (.str "r")) (aCons (mC (.str "zzzzzzzz")) aNil))))))))) 2 [some (.rol (ns.map .int)), some (.box 0), none, none, none, none, none, none] [pD p] = .nx (P8 (.rol (ns.map .int)) 1 none none none none) (pD p :: (([] : List (List Str)) ++ [base8]).map sL) :=
    (ev_box (i := 2) (d := sL base8) (b := [pD p]) rfl).trans rfl
  obtain ⟨js, left, p', q3, q4, q5, q6, e2⟩ := p1_loop (x := .rol (ns.map .int)) CA [(3, 3), (8, 5), (60, 20), (20, 20)] [] base8 p 0 none none none none (by decide) (List.Perm.refl _) h1 (by decide)
  have it : iSeq (mLst (aCons (mTup (aCons (mC (.int 3)) (aCons (mC (.int 3)) aNil))) (aCons (mTup (aCons (mC (.int 8)) (aCons (mC (.int 5)) aNil))) (aCons (mTup (aCons (mC (.int 60)) (aCons (mC (.int 20)) aNil))) (aCons (mTup (aCons (mC (.int 20)) (aCons (mC (.int 20)) aNil))) aNil))))) (P8 (.rol (ns.map .int)) 1 none none none none) (pD p :: (([] : List (List Str)) ++ [base8]).map sL) = .ok (([(3, 3), (8, 5), (60, 20), (20, 20)] : List (Nat × Nat)).map fun q => .tup [.int q.1, .int q.2]) (pD p :: (([] : List (List Str)) ++ [base8]).map sL) := rfl
  have e : m__law_part_one CA [some (.rol (ns.map .int)), none, none, none, none, none, none, none] [] = .rt (.val (.bl true)) (pD p' :: (js ++ [left]).map sL) := by
    unfold m__law_part_one
    refine (ev_seq a1).trans ((ev_seq a2).trans ((ev_seq ((ev_for it).trans e2)).trans rfl))
  exact run_rtX (n := 8) (k := 1) (m := m__law_part_one CA) (ds := [.rol (ns.map .int)]) (bx := []) (d := .bl true) e (by simp) rfl rfl (fun j z => by cases z)
end Q0

set_option Elab.async false
set_option linter.all false
set_option maxRecDepth 100000
set_option maxHeartbeats 4000000
/-! QH: what a filter says, as a text; conditions, depth, number. -/
namespace Q0
open PySem DL
/-! ### texts of truths -/
def bP : Option Bool → PyData
  | none => .none
  | some b => .bool b
def lP (vs : List (Option Bool)) : PyData := .list (vs.map bP)
def sS (vs : List (Option Bool)) : Str := (lP vs).shown
theorem toPs_b : ∀ vs : List (Option Bool), D.toPs (vs.map dB) = some (vs.map bP)
  | [] => rfl
  | v :: vs => by
    have h := toPs_b vs
    have h2 : (dB v).toP = some (bP v) := by cases v <;> rfl
    show (match (dB v).toP, D.toPs (vs.map dB) with | some p, some ps => some (p :: ps) | _, _ => none) = _
    rw [h2, h]
    rfl
theorem showable_b : ∀ vs : List (Option Bool), PyData.showableAll (vs.map bP) = true
  | [] => by simp only [List.map_nil, PyData.showableAll]
  | v :: vs => by
    have h2 : (bP v).showable = true := by cases v <;> simp only [bP, PyData.showable]
    simp only [List.map_cons, PyData.showableAll, h2, showable_b vs, Bool.and_self]
theorem noDict_b : ∀ vs : List (Option Bool), PyData.hasDictAll (vs.map bP) = false
  | [] => by simp only [List.map_nil, PyData.hasDictAll]
  | v :: vs => by
    have h2 : (bP v).hasDict = false := by cases v <;> simp only [bP, PyData.hasDict]
    simp only [List.map_cons, PyData.hasDictAll, h2, noDict_b vs, Bool.or_self]
theorem deeps_b : ∀ vs : List (Option Bool), PyData.depthAll (vs.map bP) = 0
  | [] => by simp only [List.map_nil, PyData.depthAll]
  | v :: vs => by
    have h2 : (bP v).depth = 0 := by cases v <;> simp only [bP, PyData.depth]
    simp only [List.map_cons, PyData.depthAll, h2, deeps_b vs]; rfl
theorem shown_b : ∀ vs : List (Option Bool), (PyData.shownAll (vs.map bP)).length = vs.length ∧ ((PyData.shownAll (vs.map bP)).map (·.length)).sum ≤ 5 * vs.length
  | [] => by simp [PyData.shownAll]
  | v :: vs => by
    obtain ⟨h1, h2⟩ := shown_b vs
    have h3 : (bP v).shown.length ≤ 5 := by
      rcases v with _ | _ | _
      · simp only [bP, PyData.shown]; decide +kernel
      · simp only [bP, PyData.shown]; decide +kernel
      · simp only [bP, PyData.shown]; decide +kernel
    simp only [List.map_cons, PyData.shownAll, List.length_cons, List.sum_cons]
    omega
theorem repr_b {d : D} {bx : List D} {vs : List (Option Bool)} (h : D.toPB bx d = some (lP vs)) (hl : vs.length ≤ 1000) : reprA d bx = .ok (.val (.str (sS vs))) bx := by
  unfold reprA
  rw [h]
  refine if_pos ⟨?_, ?_, ?_, ?_⟩
  · show (PyData.list (vs.map bP)).showable = true
    simp only [PyData.showable, showable_b]
  · show (PyData.list (vs.map bP)).hasDict = false
    simp only [PyData.hasDict, noDict_b]
  · show (PyData.list (vs.map bP)).depth < 63
    simp only [PyData.depth, deeps_b]
    omega
  · have e : (lP vs).shown = listText (PyData.shownAll (vs.map bP)) := by
      show (PyData.list (vs.map bP)).shown = _
      simp only [PyData.shown]
    rw [e]
    obtain ⟨h1, h2⟩ := shown_b vs
    have h3 := listText_len_le (PyData.shownAll (vs.map bP))
    rw [h1] at h3
    exact Nat.le_trans h3 (Nat.le_trans (show _ ≤ 10000 by omega) (by decide))
/-! ### said -/
def ρ2 (v w : Option Int) : Str → Option Int := fun c => if c = "a" then v else w
def vals6 : List (Option Int) := [none, some 0, some 1, some (-1), some 4, some 1000000000000]
def vals3 : List (Option Int) := [none, some 0, some 3]
def all18 (f : Option Int → Option Int → Option Bool) : List (Option Bool) := vals6.flatMap fun v => vals3.map fun w => f v w
theorem look2 {v w : Option Int} {bx : List D} {c : Str} (h : c = "a" ∨ c = "b") : Look (.dk [.inr "a", .inr "b"] [oD v, oD w]) bx (ρ2 v w) c := by
  have e : (.dk [.inr "a", .inr "b"] [oD v, oD w] : D) = vD ["a", "b"] (ρ2 v w) := rfl
  rw [e]
  refine look_v ?_
  rcases h with rfl | rfl
  · exact List.mem_cons_self ..
  · exact List.mem_cons_of_mem _ (List.mem_cons_self ..)
section
variable {x0 : D} {bx : List D} {me : ME} {f : Option Int → Option Int → Option Bool}
def m_sd (me : ME) : MS := (mSeq (mBox (mLst aNil) 1)
  (mSeq (mFor (iSeq (mLst (aCons (mC .non) (aCons (mC (.int 0)) (aCons (mC (.int 1)) (aCons (mBin subI (mC (.int 0)) (mC (.int 1))) (aCons (mC (.int 4)) (aCons (mBin powI (mC (.int 10)) (mC (.int 12))) aNil)))))))) (gN 2) (mFor (iSeq (mLst (aCons (mC .non) (aCons (mC (.int 0)) (aCons (mC (.int 3)) aNil))))) (gN 3) (mExpr (mBm appD (mVar 1) (aCons me aNil)))))
  (mRet (mCB (un1 reprA) (aCons (mVar 1) aNil)))))
abbrev B4 (x0 : D) (n : Nat) (o2 o3 : Option D) : Sl := [some x0, some (.box n), o2, o3]
abbrev SaysIn (x0 : D) (bx : List D) (me : ME) (f : Option Int → Option Int → Option Bool) : Prop := ∀ (v w : Option Int) (acc : List (Option Bool)), me (B4 x0 bx.length (some (oD v)) (some (oD w))) (bx ++ [D.lst (acc.map dB)]) = .ok (.val (dB (f v w))) (bx ++ [D.lst (acc.map dB)])
theorem get_e {bx : List D} {d : D} : (bx ++ [d])[bx.length]? = some d := by simp
theorem set_e {bx : List D} {d d' : D} : (bx ++ [d]).set bx.length d' = bx ++ [d'] := by simp
theorem sd_in (he : SaysIn x0 bx me f) (v : Option Int) : ∀ (ws : List (Option Int)) (acc : List (Option Bool)) (o3 : Option D), acc.length + ws.length ≤ 1000 →
    ∃ q3, loop (gN 3) (mExpr (mBm appD (mVar 1) (aCons me aNil))) (ws.map oD) (B4 x0 bx.length (some (oD v)) o3) (bx ++ [D.lst (acc.map dB)]) = .nx (B4 x0 bx.length (some (oD v)) q3) (bx ++ [D.lst ((acc ++ ws.map fun w => f v w).map dB)])
  | [], acc, o3, _ => ⟨o3, by simp only [List.map_nil, List.append_nil]; rfl⟩
  | w :: ws, acc, o3, hl => by
    simp only [List.length_cons] at hl
    obtain ⟨q3, e⟩ := sd_in he v ws (acc ++ [f v w]) (some (oD w)) (by rw [List.length_append, List.length_singleton]; omega)
    refine ⟨q3, ?_⟩
    rw [List.map_cons]
    refine (loop_nx (ρ1 := B4 x0 bx.length (some (oD v)) (some (oD w))) (b' := bx ++ [D.lst ((acc ++ [f v w]).map dB)]) rfl ?_).trans (e.trans ?_)
    · rw [ev_app (n := bx.length) (xs := acc.map dB) (d := dB (f v w)) (b := bx ++ [D.lst (acc.map dB)]) rfl get_e (ev_cons (he v w acc) ev_nil) get_e (by rw [List.length_map]; exact Nat.lt_of_le_of_lt (show acc.length ≤ 1000 by omega) (by decide)), set_e]
      simp
    · simp
theorem sd_out (he : SaysIn x0 bx me f) : ∀ (vs : List (Option Int)) (acc : List (Option Bool)) (o2 o3 : Option D), acc.length + 3 * vs.length ≤ 1000 →
    ∃ q2 q3, loop (gN 2) (mFor (iSeq (mLst (aCons (mC .non) (aCons (mC (.int 0)) (aCons (mC (.int 3)) aNil))))) (gN 3) (mExpr (mBm appD (mVar 1) (aCons me aNil)))) (vs.map oD) (B4 x0 bx.length o2 o3) (bx ++ [D.lst (acc.map dB)]) = .nx (B4 x0 bx.length q2 q3) (bx ++ [D.lst ((acc ++ vs.flatMap fun v => vals3.map fun w => f v w).map dB)])
  | [], acc, o2, o3, _ => ⟨o2, o3, by rw [List.flatMap_nil, List.append_nil]; rfl⟩
  | v :: vs, acc, o2, o3, hl => by
    simp only [List.length_cons] at hl
    obtain ⟨y3, e1⟩ := sd_in he v vals3 acc o3 (by show acc.length + 3 ≤ 1000; omega)
    obtain ⟨q2, q3, e2⟩ := sd_out he vs (acc ++ vals3.map fun w => f v w) (some (oD v)) y3 (by rw [List.length_append, List.length_map]; show acc.length + 3 + _ ≤ 1000; omega)
    refine ⟨q2, q3, ?_⟩
    rw [List.map_cons]
    refine (loop_nx (ρ1 := B4 x0 bx.length (some (oD v)) o3) rfl ((ev_for (ds := vals3.map oD) (b := bx ++ [D.lst (acc.map dB)]) rfl).trans e1)).trans (e2.trans ?_)
    simp
theorem sd_ok (hb : Cb bx) (he : SaysIn x0 bx me f) : ar 1 (body 4 (m_sd me)) [x0] bx = .ok (.val (.str (sS (all18 f)))) bx := by
  obtain ⟨q2, q3, e⟩ := sd_out he vals6 [] none none (by decide)
  have hi : iSeq (mLst (aCons (mC .non) (aCons (mC (.int 0)) (aCons (mC (.int 1)) (aCons (mBin subI (mC (.int 0)) (mC (.int 1))) (aCons (mC (.int 4)) (aCons (mBin powI (mC (.int 10)) (mC (.int 12))) aNil))))))) (B4 x0 bx.length none none) (bx ++ [D.lst (([] : List (Option Bool)).map dB)]) = .ok (vals6.map oD) (bx ++ [D.lst (([] : List (Option Bool)).map dB)]) := by
    have el : mLst (aCons (mC .non) (aCons (mC (.int 0)) (aCons (mC (.int 1)) (aCons (mBin subI (mC (.int 0)) (mC (.int 1))) (aCons (mC (.int 4)) (aCons (mBin powI (mC (.int 10)) (mC (.int 12))) aNil)))))) (B4 x0 bx.length none none) (bx ++ [D.lst (([] : List (Option Bool)).map dB)]) = .ok (.new (.lst (vals6.map oD))) (bx ++ [D.lst (([] : List (Option Bool)).map dB)]) :=
      ev_lst (ev_cons (r := .val .non) (b := bx ++ [D.lst (([] : List (Option Bool)).map dB)]) rfl (ev_cons (r := .val (.int 0)) (b := bx ++ [D.lst (([] : List (Option Bool)).map dB)]) rfl (ev_cons (r := .val (.int 1)) (b := bx ++ [D.lst (([] : List (Option Bool)).map dB)]) rfl (ev_cons (r := .val (.int (-1))) (b := bx ++ [D.lst (([] : List (Option Bool)).map dB)]) rfl (ev_cons (r := .val (.int 4)) (b := bx ++ [D.lst (([] : List (Option Bool)).map dB)]) rfl (ev_cons (r := .val (.int 1000000000000)) (ev_pow (a := 10) (b := 12) (by decide)) ev_nil)))))) (by decide)
    exact ev_iseq el rfl
  have s1 : mBox (mLst aNil) 1 [some x0, none, none, none] bx = .nx (B4 x0 bx.length none none) (bx ++ [D.lst (([] : List (Option Bool)).map dB)]) := ev_box (i := 1) (d := .lst []) (b := bx) rfl
  have er : mRet (mCB (un1 reprA) (aCons (mVar 1) aNil)) (B4 x0 bx.length q2 q3) (bx ++ [D.lst ((all18 f).map dB)]) = .rt (.val (.str (sS (all18 f)))) (bx ++ [D.lst ((all18 f).map dB)]) := by
    refine ev_ret ?_
    rw [ev_CB (ev_cons (r := .val (.box bx.length)) (b := bx ++ [D.lst ((all18 f).map dB)]) rfl ev_nil)]
    refine repr_b ?_ (show (all18 f).length ≤ 1000 from by show 18 ≤ 1000; decide)
    show (match (bx ++ [D.lst ((all18 f).map dB)])[bx.length]? with | some (.lst ds) => (match D.toPs ds with | some ps => some (PyData.list ps) | none => none) | _ => none) = _
    rw [get_e]
    simp only [toPs_b]
    rfl
  have z := run_rtX (n := 4) (k := 1) (m := m_sd me) (ds := [x0]) (bx := bx) (d := .str (sS (all18 f))) (b := bx ++ [D.lst ((all18 f).map dB)]) (by
    show m_sd me [some x0, none, none, none] bx = _
    unfold m_sd
    exact (ev_seq s1).trans ((ev_seq ((ev_for hi).trans e)).trans er)) (by simp) (by simpa using hb) rfl (fun j q => by cases q)
  simpa using z
end
section
variable {CA : Ly} {bx : List D}
/-- what a tree over a and b says, as a text -/
def S (t : Tr) : Str := sS (all18 fun v w => says (ρ2 v w) t)
theorem cb_more (hb : Cb bx) {d : D} (h : d.cl (bx.length + 1) = true) : Cb (bx ++ [d]) := hb.snoc h
theorem cls_dB (b : Nat) : ∀ vs : List (Option Bool), D.cls b (vs.map dB) = true
  | [] => rfl
  | v :: vs => by
    show ((dB v).cl b && D.cls b (vs.map dB)) = true
    rw [cls_dB b vs]
    cases v <;> rfl
theorem disp_ok {x0 : D} {n : Nat} {v w : Option Int} {b : List D} : mDisp2 (.inr "a") (.inr "b") (mVar 2) (mVar 3) (B4 x0 n (some (oD v)) (some (oD w))) b = .ok (.new (.dk [.inr "a", .inr "b"] [oD v, oD w])) b := by
  cases v <;> cases w <;> rfl
theorem said_ok (CA : Ly) (hb : Cb bx) {t : Tr} (hw : Fw 24 62 t) (hc : ∀ c ∈ t.cols, c = "a" ∨ c = "b") : r__law_said CA [fD t] bx = .ok (.val (.str (S t))) bx := by
  refine sd_ok (me := mCI 1 (r_Filter___call__ CA) 0 (aCons (mDisp2 (.inr "a") (.inr "b") (mVar 2) (mVar 3)) aNil)) (f := fun v w => says (ρ2 v w) t) hb fun v w acc => ?_
  rw [ev_CI (CA := CA) (t := t) rfl (ev_cons disp_ok ev_nil)]
  simp only [R.d]
  rw [f_call CA (ρ := ρ2 v w) (hb.snoc (d := D.lst (acc.map dB)) (cls_dB _ acc)) hw fun c h => look2 (v := v) (w := w) (hc c h)]
  rfl
theorem due_ok (CA : Ly) (hb : Cb bx) {t : Tr} (hw : Fw 24 62 t) (hc : ∀ c ∈ t.cols, c = "a" ∨ c = "b") : r__law_due_said CA [tD t] bx = .ok (.val (.str (S t))) bx := by
  refine sd_ok (me := mBin ixD (mLst (aCons (mC (.bl false)) (aCons (mC .non) (aCons (mC (.bl true)) aNil)))) (mCB (un1 intD) (aCons (mF (r__law_numbered CA 24) (aCons (mVar 0) (aCons (mDisp2 (.inr "a") (.inr "b") (mVar 2) (mVar 3)) aNil))) aNil))) (f := fun v w => says (ρ2 v w) t) hb fun v w acc => ?_
  have e1 : mF (r__law_numbered CA 24) (aCons (mVar 0) (aCons (mDisp2 (.inr "a") (.inr "b") (mVar 2) (mVar 3)) aNil)) (B4 (tD t) bx.length (some (oD v)) (some (oD w))) (bx ++ [D.lst (acc.map dB)]) = .ok (.val (.int (numb (says (ρ2 v w) t)))) (bx ++ [D.lst (acc.map dB)]) :=
    (ev_F (ev_cons (r := .val (tD t)) (b := bx ++ [D.lst (acc.map dB)]) rfl (ev_cons disp_ok ev_nil))).trans (num_ok (x := .dk [.inr "a", .inr "b"] [oD v, oD w]) (bx := bx ++ [D.lst (acc.map dB)]) CA (ρ := ρ2 v w) 24 t hw.deep hw.ok fun c h => look2 (v := v) (w := w) (hc c h))
  rw [ev_bin (r := .new (.lst [.bl false, .non, .bl true])) (b := bx ++ [D.lst (acc.map dB)]) rfl (ev_int e1)]
  simp only [R.d]
  rcases says (ρ2 v w) t with _ | _ | _ <;> rfl
/-! ### a condition -/
theorem cd_ok (CA : Ly) (hb : Cb bx) {t : Tr} (h1 : t.deep ≤ 1) (hn : t.cn) : r__law_condition CA [tD t] bx = .ok (.new (fD t)) bx := by
  refine (ar_ok rfl).trans (body_rt (b := bx) (r := .new (fD t)) ?_ rfl)
  show m__law_condition CA [some (tD t)] bx = _
  unfold m__law_condition
  cases t with
  | win c st =>
    have h0 : mBin ixD (mVar 0) (mC (.int 0)) [some (tD (.win c st))] bx = .ok (.val (.str "within")) bx := rfl
    rw [ev_seq (ev_no ((eqT h0).trans rfl)), ev_seq (ev_no ((eqT h0).trans rfl)), ev_seq (ev_no ((eqT h0).trans rfl))]
    have e1 : mF (r__law_set_of CA) (aCons (mBin ixD (mVar 0) (mC (.int 2))) aNil) [some (tD (.win c st))] bx = .ok (.val (rD st)) bx := (ev_F (ev_cons (r := .val (.tup (st.map sD))) (b := bx) rfl ev_nil)).trans (so_ok CA hb hn)
    exact ev_ret ((ev_CM (ev_cons (r := .val (.str c)) (b := bx) rfl (ev_cons e1 ev_nil))).trans (f_within CA hb c (Nat.le_trans hn.l (by decide))))
  | miss c =>
    have h0 : mBin ixD (mVar 0) (mC (.int 0)) [some (tD (.miss c))] bx = .ok (.val (.str "missing")) bx := rfl
    rw [ev_seq (ev_no ((eqT h0).trans rfl)), ev_seq (ev_no ((eqT h0).trans rfl))]
    refine ev_seqR ?_
    rw [ev_ifT (b := bx) ((eqT h0).trans rfl)]
    exact ev_ret ((ev_CM (ev_cons (r := .val (.str c)) (b := bx) rfl ev_nil)).trans (f_missing CA hb c))
  | alw =>
    have h0 : mBin ixD (mVar 0) (mC (.int 0)) [some (tD .alw)] bx = .ok (.val (.str "always")) bx := rfl
    refine ev_seqR ?_
    rw [ev_ifT (b := bx) ((eqT h0).trans rfl)]
    exact ev_ret ((ev_CM ev_nil).trans (f_always CA hb))
  | nev =>
    have h0 : mBin ixD (mVar 0) (mC (.int 0)) [some (tD .nev)] bx = .ok (.val (.str "never")) bx := rfl
    rw [ev_seq (ev_no ((eqT h0).trans rfl))]
    refine ev_seqR ?_
    rw [ev_ifT (b := bx) ((eqT h0).trans rfl)]
    exact ev_ret ((ev_CM ev_nil).trans (f_never CA hb))
  | no a => cases a <;> simp [Tr.deep] at h1
  | and a b => simp [Tr.deep] at h1; cases a <;> simp [Tr.deep] at h1
  | or a b => simp [Tr.deep] at h1; cases a <;> simp [Tr.deep] at h1
/-! ### depth, number -/
theorem ao_in {d : D} {w : Str} {k : Bool} (h0 : mBin ixD (mVar 0) (mC (.int 0)) [some d] bx = .ok (.val (.str w)) bx) (hk : (("and" : Str) == w || (("or" : Str) == w || false)) = k) : mTest (mBin (DL.inS false) (mBin ixD (mVar 0) (mC (.int 0))) (mTup (aCons (mC (.str "and")) (aCons (mC (.str "or")) aNil)))) [some d] bx = .ok k bx := by
  rw [← hk]
  exact ev_test ((ev_bin h0 (r' := .val (.tup [.str "and", .str "or"])) (b' := bx) rfl).trans rfl)
theorem dm_leaf (rc rc2 : MF) {t : Tr} {w : Str} (h0 : mBin ixD (mVar 0) (mC (.int 0)) [some (tD t)] bx = .ok (.val (.str w)) bx) (hk : (("and" : Str) == w || (("or" : Str) == w || false)) = false) (hs : SeqAt.shaped (.str w) = true) (hn : w ≠ "not") :
    ar 1 (body 1 (m__law_deep CA rc)) [tD t] bx = .ok (.val (.int 1)) bx ∧ ar 1 (body 1 (m__law_many CA rc2)) [tD t] bx = .ok (.val (.int 1)) bx := by
  have t2 : mTest (mBin eqD (mBin ixD (mVar 0) (mC (.int 0))) (mC (.str "not"))) [some (tD t)] bx = .ok false bx := by rw [eqT h0 hs, decide_eq_false hn]
  constructor
  · refine run_rt ?_
    show m__law_deep CA rc [some (tD t)] bx = _
    unfold m__law_deep
    rw [ev_seq (ev_no (ao_in h0 hk))]
    refine ev_ret ?_
    unfold mIf
    rw [t2]
    rfl
  · refine run_rt ?_
    show m__law_many CA rc2 [some (tD t)] bx = _
    unfold m__law_many
    rw [ev_seq (ev_no (ao_in h0 hk))]
    refine ev_ret ?_
    unfold mIf
    rw [t2]
    rfl
theorem dm_ok (CA : Ly) : ∀ (n : Nat) (t : Tr), t.deep ≤ n → r__law_deep CA n [tD t] bx = .ok (.val (.int t.deep)) bx ∧ r__law_many CA n [tD t] bx = .ok (.val (.int t.lv)) bx
  | 0, t, h => by cases t <;> simp [Tr.deep] at h
  | n + 1, t, h => by
    cases t with
    | win c st => exact dm_leaf _ _ (t := .win c st) (w := "within") rfl (by decide) (by decide +kernel) (by decide)
    | miss c => exact dm_leaf _ _ (t := .miss c) (w := "missing") rfl (by decide) (by decide +kernel) (by decide)
    | alw => exact dm_leaf _ _ (t := .alw) (w := "always") rfl (by decide) (by decide +kernel) (by decide)
    | nev => exact dm_leaf _ _ (t := .nev) (w := "never") rfl (by decide) (by decide +kernel) (by decide)
    | no a =>
      have h2 : a.deep + 1 ≤ n + 1 := h
      obtain ⟨ea, ea'⟩ := dm_ok CA n a (by omega)
      have h0 : mBin ixD (mVar 0) (mC (.int 0)) [some (tD (.no a))] bx = .ok (.val (.str "not")) bx := rfl
      have t2 : mTest (mBin eqD (mBin ixD (mVar 0) (mC (.int 0))) (mC (.str "not"))) [some (tD (.no a))] bx = .ok true bx := (eqT h0).trans rfl
      have c1 : ∀ mf : MF, mF mf (aCons (mBin ixD (mVar 0) (mC (.int 1))) aNil) [some (tD (.no a))] bx = mf [tD a] bx := fun mf => ev_F (ev_cons (r := .val (tD a)) (b := bx) rfl ev_nil)
      constructor
      · refine run_rt (b := bx) ?_
        show m__law_deep CA _ [some (tD (.no a))] bx = _
        unfold m__law_deep
        rw [ev_seq (ev_no (ao_in h0 (by decide)))]
        refine ev_ret ?_
        unfold mIf
        rw [t2]
        simp only [Out.bind_ok, if_true]
        rw [ev_addI (m := mC (.int 1)) (i := 1) (b := bx) rfl ((c1 _).trans ea)]
        simp only [Tr.deep]
        rw [show (1 : Int) + (a.deep : Int) = ((a.deep + 1 : Nat) : Int) by omega]
      · refine run_rt (b := bx) ?_
        show m__law_many CA _ [some (tD (.no a))] bx = _
        unfold m__law_many
        rw [ev_seq (ev_no (ao_in h0 (by decide)))]
        refine ev_ret ?_
        unfold mIf
        rw [t2]
        simp only [Out.bind_ok, if_true]
        rw [c1, ea']
        rfl
    | and a b =>
      have h2 : max a.deep b.deep + 1 ≤ n + 1 := h
      obtain ⟨ea, ea'⟩ := dm_ok CA n a (by omega)
      obtain ⟨eb, eb'⟩ := dm_ok CA n b (by omega)
      have h0 : mBin ixD (mVar 0) (mC (.int 0)) [some (tD (.and a b))] bx = .ok (.val (.str "and")) bx := rfl
      have c1 : ∀ mf : MF, mF mf (aCons (mBin ixD (mVar 0) (mC (.int 1))) aNil) [some (tD (.and a b))] bx = mf [tD a] bx := fun mf => ev_F (ev_cons (r := .val (tD a)) (b := bx) rfl ev_nil)
      have c2 : ∀ mf : MF, mF mf (aCons (mBin ixD (mVar 0) (mC (.int 2))) aNil) [some (tD (.and a b))] bx = mf [tD b] bx := fun mf => ev_F (ev_cons (r := .val (tD b)) (b := bx) rfl ev_nil)
      constructor
      · refine run_rt (b := bx) ?_
        show m__law_deep CA _ [some (tD (.and a b))] bx = _
        unfold m__law_deep
        refine ev_seqR ?_
        rw [ev_ifT (ao_in h0 (by decide))]
        refine ev_ret ?_
        rw [ev_addI (m := mC (.int 1)) (i := 1) (b := bx) rfl (ev_max ((c1 _).trans ea) ((c2 _).trans eb))]
        simp only [Tr.deep]
        congr 3
        split <;> omega
      · refine run_rt (b := bx) ?_
        show m__law_many CA _ [some (tD (.and a b))] bx = _
        unfold m__law_many
        refine ev_seqR ?_
        rw [ev_ifT (ao_in h0 (by decide))]
        refine ev_ret ?_
        rw [ev_addI ((c1 _).trans ea') ((c2 _).trans eb')]
        rfl
    | or a b =>
      have h2 : max a.deep b.deep + 1 ≤ n + 1 := h
      obtain ⟨ea, ea'⟩ := dm_ok CA n a (by omega)
      obtain ⟨eb, eb'⟩ := dm_ok CA n b (by omega)
      have h0 : mBin ixD (mVar 0) (mC (.int 0)) [some (tD (.or a b))] bx = .ok (.val (.str "or")) bx := rfl
      have c1 : ∀ mf : MF, mF mf (aCons (mBin ixD (mVar 0) (mC (.int 1))) aNil) [some (tD (.or a b))] bx = mf [tD a] bx := fun mf => ev_F (ev_cons (r := .val (tD a)) (b := bx) rfl ev_nil)
      have c2 : ∀ mf : MF, mF mf (aCons (mBin ixD (mVar 0) (mC (.int 2))) aNil) [some (tD (.or a b))] bx = mf [tD b] bx := fun mf => ev_F (ev_cons (r := .val (tD b)) (b := bx) rfl ev_nil)
      constructor
      · refine run_rt (b := bx) ?_
        show m__law_deep CA _ [some (tD (.or a b))] bx = _
        unfold m__law_deep
        refine ev_seqR ?_
        rw [ev_ifT (ao_in h0 (by decide))]
        refine ev_ret ?_
        rw [ev_addI (m := mC (.int 1)) (i := 1) (b := bx) rfl (ev_max ((c1 _).trans ea) ((c2 _).trans eb))]
        simp only [Tr.deep]
        congr 3
        split <;> omega
      · refine run_rt (b := bx) ?_
        show m__law_many CA _ [some (tD (.or a b))] bx = _
        unfold m__law_many
        refine ev_seqR ?_
        rw [ev_ifT (ao_in h0 (by decide))]
        refine ev_ret ?_
        rw [ev_addI ((c1 _).trans ea') ((c2 _).trans eb')]
        rfl
end
end Q0

set_option Elab.async false
set_option linter.all false
set_option maxRecDepth 100000
set_option maxHeartbeats 4000000
/-! QI: filters made of earlier ones. -/
namespace DL
open PySem
theorem compB_go {α : Type} (f g' : α → D) {g : D → Sl → Option Sl} {m : ME} {n : Nat} {ρ : Sl} {bx : List D} {xs : List α} (hx : bx[n]? = some (D.lst (xs.map f))) (h : ∀ a ∈ xs, ∃ ρ1 r, g (f a) ρ = some ρ1 ∧ m ρ1 bx = .ok r bx ∧ r.d = g' a) :
    ∀ (k i : Nat) (acc : List D), xs.length < k + i → i ≤ xs.length → acc.length + (xs.length - i) ≤ 1000 → compB g mYes m n k i ρ bx acc = .ok (acc ++ (xs.drop i).map g') bx
  | 0, i, acc, h1, h2, _ => by omega
  | k + 1, i, acc, h1, h2, h3 => by
    unfold compB
    rw [hx]
    simp only [List.getElem?_map]
    by_cases hi : i < xs.length
    · rw [List.getElem?_eq_getElem hi]
      simp only [Option.map_some]
      obtain ⟨ρ1, r, e1, e2, e3⟩ := h xs[i] (List.getElem_mem hi)
      rw [e1]
      simp only [mYes, noX, Out.bind_ok, if_true]
      rw [e2]
      simp only [Out.bind_ok]
      rw [if_pos (Nat.lt_of_le_of_lt (show acc.length ≤ 1000 by omega) (by decide)), e3]
      have e4 := compB_go f g' hx h k (i + 1) (acc ++ [g' xs[i]]) (by omega) hi (by rw [List.length_append, List.length_singleton]; omega)
      rw [e4, List.drop_eq_getElem_cons hi, List.map_cons]
      simp
    · rw [List.getElem?_eq_none (Nat.le_of_not_lt hi), List.drop_eq_nil_of_le (Nat.le_of_not_lt hi)]
      simp
theorem ev_compB {α : Type} (f g' : α → D) {g : D → Sl → Option Sl} {mi m : ME} {n : Nat} {vs : List Nat} {ρ : Sl} {bx : List D} {xs : List α} (hi : mi ρ bx = .ok (.val (.box n)) bx) (hx : bx[n]? = some (D.lst (xs.map f))) (hl : xs.length < 99) (h : ∀ a ∈ xs, ∃ ρ1 r, g (f a) (wipeD ρ vs) = some ρ1 ∧ m ρ1 bx = .ok r bx ∧ r.d = g' a) :
    mCompB 99 mi vs g mYes m ρ bx = .ok (.new (.lst (xs.map g'))) bx := by
  unfold mCompB
  rw [hi]
  show (compB g mYes m n 99 0 (wipeD ρ vs) bx []).bind _ = _
  rw [compB_go f g' hx h 99 0 [] (by omega) (Nat.zero_le _) (by simp; omega)]
  simp
end DL
namespace Q0
open PySem DL
abbrev AB (c : Str) : Prop := c ∈ (["a", "b"] : List Str)
abbrev TL (ts : List Tr) : D := .lst (ts.map tD)
abbrev FL (ts : List Tr) : D := .lst (ts.map fD)
abbrev SL (ts : List Tr) : D := .lst (ts.map fun t => D.str (S t))
abbrev bT (p : Pn) (ts : List Tr) : List D := [pD p, TL ts, FL ts, SL ts]
theorem cls_tD (b : Nat) : ∀ ts : List Tr, D.cls b (ts.map tD) = true
  | [] => rfl
  | t :: ts => by
    show ((tD t).cl b && D.cls b (ts.map tD)) = true
    rw [cl_t, cls_tD b ts]; rfl
theorem cls_fD (b : Nat) : ∀ ts : List Tr, D.cls b (ts.map fD) = true
  | [] => rfl
  | t :: ts => by
    show ((fD t).cl b && D.cls b (ts.map fD)) = true
    rw [cl_f, cls_fD b ts]; rfl
theorem cls_sD (b : Nat) : ∀ ts : List Tr, D.cls b (ts.map fun t => D.str (S t)) = true
  | [] => rfl
  | t :: ts => by
    show (true && D.cls b (ts.map fun t => D.str (S t))) = true
    rw [cls_sD b ts]; rfl
theorem cr_T (ts : List Tr) : Cr [TL ts, FL ts, SL ts] := fun p => by
  show ((pD p).cl 4 && (D.cls 4 (ts.map tD) && (D.cls 4 (ts.map fD) && (D.cls 4 (ts.map fun t => D.str (S t)) && true)))) = true
  rw [cl_p, cls_tD, cls_fD, cls_sD]; rfl
theorem cb_T (p : Pn) (ts : List Tr) : Cb (bT p ts) := cr_T ts p
theorem ab_or {t : Tr} {d n : Nat} (h : TV AB d n t) : ∀ c ∈ t.cols, c = "a" ∨ c = "b" := fun c hc => by
  have := h.cols c hc
  simpa using this
structure Pick (ts : List Tr) (i : Int) (a : Tr) : Prop where
  lo : 0 ≤ i
  hi : i < ts.length
  at_ : ts[i.toNat]? = some a
theorem Pick.ix {ts : List Tr} {i : Int} {a : Tr} (h : Pick ts i a) (f : Tr → D) : L2.atI (ts.map f) i = some (f a) := by
  unfold L2.atI L2.ixN
  have h2 := h.hi
  have h3 := h.lo
  rw [if_pos h.lo, List.length_map, if_pos h.hi]
  simp [h.at_]
theorem Pick.mem {ts : List Tr} {i : Int} {a : Tr} (h : Pick ts i a) : a ∈ ts := List.mem_of_getElem? h.at_
theorem pick_of {ts : List Tr} {i : Int} (h0 : 0 ≤ i) (h1 : i < ts.length) : ∃ a, Pick ts i a := ⟨ts[i.toNat]'(by omega), h0, h1, List.getElem?_eq_getElem (by omega)⟩
/-- how the next one is made -/
structure Nx (ts : List Tr) (w : Str) (i j : Int) (t : Tr) : Prop where
  ex : ∃ a b, Pick ts i a ∧ Pick ts j b ∧ ((w = "and" ∧ t = .and a b) ∨ (w = "or" ∧ t = .or a b) ∨ (w = "not" ∧ t = .no a) ∨ (w = "twice" ∧ t = .no (.no a)))
section
variable {CA : Ly} {p : Pn} {k : Int} {ts : List Tr}
theorem ev_tup4 {m1 m2 m3 m4 : ME} {ρ : Sl} {bx b1 b2 b3 b4 : List D} {r1 r2 r3 r4 : R} (h1 : m1 ρ bx = .ok r1 b1) (h2 : m2 ρ b1 = .ok r2 b2) (h3 : m3 ρ b2 = .ok r3 b3) (h4 : m4 ρ b3 = .ok r4 b4) : mTup (aCons m1 (aCons m2 (aCons m3 (aCons m4 aNil)))) ρ bx = .ok (.val (.tup [r1.d, r2.d, r3.d, r4.d])) b4 := by
  unfold mTup
  rw [ev_cons h1 (ev_cons h2 (ev_cons h3 (ev_cons h4 ev_nil)))]
  rfl
theorem len_box {n : Nat} {ρ : Sl} {i : Nat} {bx : List D} {xs : List D} (hi : ρ[i]? = some (some (.box n))) (hx : bx[n]? = some (D.lst xs)) : mCB (un1 lenD) (aCons (mVar i) aNil) ρ bx = .ok (.val (.int xs.length)) bx := by
  have e : mVar i ρ bx = .ok (.val (.box n)) bx := by unfold mVar; rw [hi]
  rw [ev_CB (ev_cons e ev_nil)]
  show (match (match (match bx[n]? with | some (.lst ds) => some ds | _ => none) with | some ds => some ds | none => none) with | some ds => OK (.int (ds.length : Nat)) bx | none => .stk) = _
  rw [hx]
abbrev N5b (i j pick : Int) : Sl := [some (.box 0), some (.box 1), some (.int i), some (.int j), some (.int pick)]
theorem nx_ok (CA : Ly) (hp : PO p k) (hk : k < 990000) (h1 : 1 ≤ ts.length) (h2 : ts.length ≤ 100) :
    ∃ (w : Str) (i j : Int) (t : Tr) (p' : Pn), r__law_next CA [.box 0, .box 1] (bT p ts) = .ok (.val (.tup [.str w, .int i, .int j, tD t])) (bT p' ts) ∧ Nx ts w i j t ∧ PO p' (k + 3) := by
  have hd := Drw_b CA
  have el : ∀ (ρ : Sl) (q : Pn), ρ[1]? = some (some (.box 1)) → mCB (un1 lenD) (aCons (mVar 1) aNil) ρ (bT q ts) = .ok (.val (.int ts.length)) (bT q ts) := fun ρ q h => by
    have z := len_box (bx := bT q ts) (xs := ts.map tD) h rfl
    rw [List.length_map] at z
    exact z
  obtain ⟨i, p1, e1, a1, a2, g1⟩ := ev_draw hd (ρ := [some (.box 0), some (.box 1), none, none, none]) (rest := [TL ts, FL ts, SL ts]) (m := mCB (un1 lenD) (aCons (mVar 1) aNil)) rfl (el _ p rfl) hp (by omega) (by omega) (by omega)
  obtain ⟨j, p2, e2, b1, b2, g2⟩ := ev_draw hd (ρ := [some (.box 0), some (.box 1), none, none, none]) (rest := [TL ts, FL ts, SL ts]) (m := mCB (un1 lenD) (aCons (mVar 1) aNil)) rfl (el _ p1 rfl) g1 (by omega) (by omega) (by omega)
  have s1 := ev_par2 (i := 2) (j := 3) (ev_cons e1 (ev_cons e2 ev_nil))
  obtain ⟨pk, p3, e3, c1, c2, g3⟩ := ev_draw hd (ρ := [some (.box 0), some (.box 1), some (.int i), some (.int j), none]) (rest := [TL ts, FL ts, SL ts]) (m := mC (.int 7)) rfl rfl g2 (by omega) (by decide) (by decide)
  have s2 := ev_asg (i := 4) e3
  obtain ⟨a, ha⟩ := pick_of a1 a2
  obtain ⟨b, hb⟩ := pick_of b1 b2
  have ia : ∀ (n : Nat) (x : Int) (y : Tr), (N5b i j pk)[n]? = some (some (.int x)) → Pick ts x y → mBin ixD (mVar 1) (mVar n) (N5b i j pk) (bT p3 ts) = .ok (.val (tD y)) (bT p3 ts) := fun n x y hn hy => by
    have e : mVar n (N5b i j pk) (bT p3 ts) = .ok (.val (.int x)) (bT p3 ts) := by unfold mVar; rw [hn]
    exact (ev_bin (r := .val (.box 1)) (b := bT p3 ts) rfl e).trans (ix_box (ds := ts.map tD) rfl (hy.ix tD))
  have x2 := ia 2 i a rfl ha
  have x3 := ia 3 j b rfl hb
  have fin : ∀ (w : Str) (j' : Int) (t : Tr), m__law_next CA [some (.box 0), some (.box 1), none, none, none] (bT p ts) = .rt (.val (.tup [.str w, .int i, .int j', tD t])) (bT p3 ts) → Nx ts w i j' t →
      ∃ (w : Str) (i j : Int) (t : Tr) (p' : Pn), r__law_next CA [.box 0, .box 1] (bT p ts) = .ok (.val (.tup [.str w, .int i, .int j, tD t])) (bT p' ts) ∧ Nx ts w i j t ∧ PO p' (k + 3) := fun w j' t e hx => ⟨w, i, j', t, p3, run_rt e, hx, g3.mono (by omega)⟩
  have tl : ∀ z : Int, mTest (mBin ltI (mVar 4) (mC (.int z))) (N5b i j pk) (bT p3 ts) = .ok (decide (pk < z)) (bT p3 ts) := fun z => rfl
  have te : ∀ z : Int, mTest (mBin eqD (mVar 4) (mC (.int z))) (N5b i j pk) (bT p3 ts) = .ok (pk == z) (bT p3 ts) := fun z => rfl
  by_cases q0 : pk < 2
  · refine fin "and" j (.and a b) ?_ ⟨a, b, ha, hb, .inl ⟨rfl, rfl⟩⟩
    have t0 := tl 2
    rw [decide_eq_true q0] at t0
    unfold m__law_next
    refine (ev_seq s1).trans ((ev_seq s2).trans (ev_seqR ((ev_ifT t0).trans (ev_ret ?_))))
    exact ev_tup4 (r1 := .val (.str "and")) (r2 := .val (.int i)) (r3 := .val (.int j)) (b1 := bT p3 ts) (b2 := bT p3 ts) (b3 := bT p3 ts) rfl rfl rfl (ev_tup3 (r1 := .val (.str "and")) (b1 := bT p3 ts) rfl x2 x3)
  have t0 := tl 2
  rw [decide_eq_false q0] at t0
  by_cases q1 : pk < 4
  · refine fin "or" j (.or a b) ?_ ⟨a, b, ha, hb, .inr (.inl ⟨rfl, rfl⟩)⟩
    have t1 := tl 4
    rw [decide_eq_true q1] at t1
    unfold m__law_next
    refine (ev_seq s1).trans ((ev_seq s2).trans ((ev_seq (ev_no t0)).trans (ev_seqR ((ev_ifT t1).trans (ev_ret ?_)))))
    exact ev_tup4 (r1 := .val (.str "or")) (r2 := .val (.int i)) (r3 := .val (.int j)) (b1 := bT p3 ts) (b2 := bT p3 ts) (b3 := bT p3 ts) rfl rfl rfl (ev_tup3 (r1 := .val (.str "or")) (b1 := bT p3 ts) rfl x2 x3)
  have t1 := tl 4
  rw [decide_eq_false q1] at t1
  by_cases q2 : pk = 4
  · refine fin "not" i (.no a) ?_ ⟨a, a, ha, ha, .inr (.inr (.inl ⟨rfl, rfl⟩))⟩
    have t2 := te 4
    rw [show (pk == 4) = true by rw [q2]; rfl] at t2
    unfold m__law_next
    refine (ev_seq s1).trans ((ev_seq s2).trans ((ev_seq (ev_no t0)).trans ((ev_seq (ev_no t1)).trans (ev_seqR ((ev_ifT t2).trans (ev_ret ?_))))))
    exact ev_tup4 (r1 := .val (.str "not")) (r2 := .val (.int i)) (r3 := .val (.int i)) (b1 := bT p3 ts) (b2 := bT p3 ts) (b3 := bT p3 ts) rfl rfl rfl (ev_tup2 (r1 := .val (.str "not")) (b1 := bT p3 ts) rfl x2)
  have t2 := te 4
  rw [show (pk == 4) = false from beq_eq_false_iff_ne.mpr q2] at t2
  by_cases q3 : pk = 5
  · refine fin "and" i (.and a a) ?_ ⟨a, a, ha, ha, .inl ⟨rfl, rfl⟩⟩
    have t3 := te 5
    rw [show (pk == 5) = true by rw [q3]; rfl] at t3
    unfold m__law_next
    refine (ev_seq s1).trans ((ev_seq s2).trans ((ev_seq (ev_no t0)).trans ((ev_seq (ev_no t1)).trans ((ev_seq (ev_no t2)).trans (ev_seqR ((ev_ifT t3).trans (ev_ret ?_)))))))
    exact ev_tup4 (r1 := .val (.str "and")) (r2 := .val (.int i)) (r3 := .val (.int i)) (b1 := bT p3 ts) (b2 := bT p3 ts) (b3 := bT p3 ts) rfl rfl rfl (ev_tup3 (r1 := .val (.str "and")) (b1 := bT p3 ts) rfl x2 x2)
  · refine fin "twice" i (.no (.no a)) ?_ ⟨a, a, ha, ha, .inr (.inr (.inr ⟨rfl, rfl⟩))⟩
    have t3 := te 5
    rw [show (pk == 5) = false from beq_eq_false_iff_ne.mpr q3] at t3
    unfold m__law_next
    refine (ev_seq s1).trans ((ev_seq s2).trans ((ev_seq (ev_no t0)).trans ((ev_seq (ev_no t1)).trans ((ev_seq (ev_no t2)).trans ((ev_seq (ev_no t3)).trans (ev_ret ?_))))))
    exact ev_tup4 (r1 := .val (.str "twice")) (r2 := .val (.int i)) (r3 := .val (.int i)) (b1 := bT p3 ts) (b2 := bT p3 ts) (b3 := bT p3 ts) rfl rfl rfl (ev_tup2 (r1 := .val (.str "not")) (b1 := bT p3 ts) rfl (ev_tup2 (r1 := .val (.str "not")) (b1 := bT p3 ts) rfl x2))
theorem bb_ok (CA : Ly) {w : Str} {i j : Int} {t : Tr} (hn : Nx ts w i j t) (hw : Fw 24 62 t) : r__law_built_b CA [.box 2, .str w, .int i, .int j] (bT p ts) = .ok (.new (fD t)) (bT p ts) := by
  obtain ⟨a, b, ha, hb, hc⟩ := hn.ex
  have x2 : mBin ixD (mVar 0) (mVar 2) [some (.box 2), some (.str w), some (.int i), some (.int j)] (bT p ts) = .ok (.val (fD a)) (bT p ts) := (ev_bin (r := .val (.box 2)) (r' := .val (.int i)) (b := bT p ts) (b' := bT p ts) rfl rfl).trans (ix_box (ds := ts.map fD) rfl (ha.ix fD))
  have x3 : mBin ixD (mVar 0) (mVar 3) [some (.box 2), some (.str w), some (.int i), some (.int j)] (bT p ts) = .ok (.val (fD b)) (bT p ts) := (ev_bin (r := .val (.box 2)) (r' := .val (.int j)) (b := bT p ts) (b' := bT p ts) rfl rfl).trans (ix_box (ds := ts.map fD) rfl (hb.ix fD))
  have tw : ∀ z : Str, SeqAt.shaped (.str w) = true → SeqAt.shaped (.str z) = true → mTest (mBin eqD (mVar 1) (mC (.str z))) [some (.box 2), some (.str w), some (.int i), some (.int j)] (bT p ts) = .ok (decide (w = z)) (bT p ts) := fun z h1 h2 =>
    ev_test ((ev_bin (r := .val (.str w)) (r' := .val (.str z)) (b := bT p ts) (b' := bT p ts) rfl rfl).trans (eq_ss w z _ h1 h2))
  refine run_rt ?_
  show m__law_built_b CA [some (.box 2), some (.str w), some (.int i), some (.int j)] (bT p ts) = _
  unfold m__law_built_b
  have hcb := cb_T p ts
  rcases hc with ⟨rfl, rfl⟩ | ⟨rfl, rfl⟩ | ⟨rfl, rfl⟩ | ⟨rfl, rfl⟩
  · exact ev_seqR ((ev_ifT ((tw "and" (by decide +kernel) (by decide +kernel)).trans rfl)).trans (ev_ret ((ev_bin x2 x3).trans (f_and CA hcb hw))))
  · refine (ev_seq (ev_no ((tw "and" (by decide +kernel) (by decide +kernel)).trans rfl))).trans ?_
    exact ev_seqR ((ev_ifT ((tw "or" (by decide +kernel) (by decide +kernel)).trans rfl)).trans (ev_ret ((ev_bin x2 x3).trans (f_or CA hcb hw))))
  · refine (ev_seq (ev_no ((tw "and" (by decide +kernel) (by decide +kernel)).trans rfl))).trans ((ev_seq (ev_no ((tw "or" (by decide +kernel) (by decide +kernel)).trans rfl))).trans (ev_ret ?_))
    have tn : mTest (mBin eqD (mVar 1) (mC (.str "not"))) [some (.box 2), some (.str "not"), some (.int i), some (.int j)] (bT p ts) = .ok true (bT p ts) := (tw "not" (by decide +kernel) (by decide +kernel)).trans rfl
    unfold mIf
    rw [tn]
    simp only [Out.bind_ok, if_true]
    exact (ev_un x2).trans (f_no CA hcb hw)
  · refine (ev_seq (ev_no ((tw "and" (by decide +kernel) (by decide +kernel)).trans rfl))).trans ((ev_seq (ev_no ((tw "or" (by decide +kernel) (by decide +kernel)).trans rfl))).trans (ev_ret ?_))
    have tn : mTest (mBin eqD (mVar 1) (mC (.str "not"))) [some (.box 2), some (.str "twice"), some (.int i), some (.int j)] (bT p ts) = .ok false (bT p ts) := (tw "not" (by decide +kernel) (by decide +kernel)).trans rfl
    unfold mIf
    rw [tn]
    simp only [Out.bind_ok, Bool.false_eq_true, if_false]
    have w1 : Fw 24 62 (.no a) := ⟨by have := hw.deep; simp only [Tr.deep] at this ⊢; omega, hw.cols, hw.ok⟩
    have y1 : mUn (fun x bx => noX (unC 1 (r_Filter___invert__ CA) x bx)) (mBin ixD (mVar 0) (mVar 2)) [some (.box 2), some (.str "twice"), some (.int i), some (.int j)] (bT p ts) = .ok (.new (fD (.no a))) (bT p ts) := (ev_un x2).trans (f_no CA hcb w1)
    exact (ev_un y1).trans (f_no CA hcb hw)
/-! ### the turns -/
abbrev S14 (x : D) (o5 o6 o7 o8 o9 oa ob oc od : Option D) : Sl := [some x, some (.box 0), some (.box 1), some (.box 2), some (.box 3), o5, o6, o7, o8, o9, oa, ob, oc, od]
abbrev m_tn (CA : Ly) : MS := (mSeq (mAsg (mF (r__law_next CA) (aCons (mVar 1) (aCons (mVar 2) aNil))) (gTup [(gN 10), (gN 6), (gN 11), (gN 12)]))
   (mSeq (mIfS (mOr (mTest (mBin gtI (mF (r__law_deep CA 24) (aCons (mVar 12) aNil)) (mC (.int 20)))) (mTest (mBin gtI (mF (r__law_many CA 24) (aCons (mVar 12) aNil)) (mC (.int 60))))) (mSeq (mAsg (mF (r__law_leaf_b CA) (aCons (mVar 1) (aCons (mLst (aCons (mC (.str "b")) (aCons (mC (.str "a")) aNil))) aNil))) (gN 12))
    (mAsg (mF (r__law_condition CA) (aCons (mVar 12) aNil)) (gN 7))) (mAsg (mF (r__law_built_b CA) (aCons (mVar 3) (aCons (mVar 10) (aCons (mVar 6) (aCons (mVar 11) aNil))))) (gN 7)))
   (mSeq (mExpr (mBm appD (mVar 3) (aCons (mVar 7) aNil)))
   (mSeq (mExpr (mBm appD (mVar 2) (aCons (mVar 12) aNil)))
   (mExpr (mBm appD (mVar 4) (aCons (mF (r__law_said CA) (aCons (mVar 7) aNil)) aNil)))))))
theorem map_snoc {α : Type} (f : α → D) (xs : List α) (x : α) : xs.map f ++ [f x] = (xs ++ [x]).map f := by simp
theorem tn_ok (CA : Ly) {x : D} {o5 o6 o7 o8 o9 oa ob oc od : Option D} (hp : PO p k) (hk : k < 900000) (h1 : 1 ≤ ts.length) (h2 : ts.length ≤ 90) (ht : ∀ t ∈ ts, TV AB 20 60 t) :
    ∃ (t : Tr) (p' : Pn) (q6 q7 qa qb qc : Option D), m_tn CA (S14 x o5 o6 o7 o8 o9 oa ob oc od) (bT p ts) = .nx (S14 x o5 q6 q7 o8 o9 qa qb qc od) (bT p' (ts ++ [t])) ∧ TV AB 20 60 t ∧ PO p' (k + 20) := by
  obtain ⟨w, i, j, t, p1, e1, hn, g1⟩ := nx_ok CA hp (by omega) h1 (by omega)
  have s1 : mAsg (mF (r__law_next CA) (aCons (mVar 1) (aCons (mVar 2) aNil))) (gTup [(gN 10), (gN 6), (gN 11), (gN 12)]) (S14 x o5 o6 o7 o8 o9 oa ob oc od) (bT p ts) = .nx (S14 x o5 (some (.int i)) o7 o8 o9 (some (.str w)) (some (.int j)) (some (tD t)) od) (bT p1 ts) := by
    unfold mAsg
    rw [(ev_F (ev_cons (r := .val (.box 0)) (b := bT p ts) rfl (ev_cons (r := .val (.box 1)) (b := bT p ts) rfl ev_nil))).trans e1]
    rfl
  have tv : TV AB 22 120 t := by
    obtain ⟨a, b, ha, hb, hc⟩ := hn.ex
    have va := ht a ha.mem
    have vb := ht b hb.mem
    rcases hc with ⟨_, rfl⟩ | ⟨_, rfl⟩ | ⟨_, rfl⟩ | ⟨_, rfl⟩
    · exact (va.and vb).mono (by omega) (by omega)
    · exact (va.or vb).mono (by omega) (by omega)
    · exact va.no.mono (by omega) (by omega)
    · exact va.no.no.mono (by omega) (by omega)
  obtain ⟨d1, d2⟩ := dm_ok (bx := bT p1 ts) CA 24 t (Nat.le_trans tv.deep (by decide))
  have v12 : ∀ mf : MF, mF mf (aCons (mVar 12) aNil) (S14 x o5 (some (.int i)) o7 o8 o9 (some (.str w)) (some (.int j)) (some (tD t)) od) (bT p1 ts) = mf [tD t] (bT p1 ts) := fun mf => ev_F (ev_cons (r := .val (tD t)) (b := bT p1 ts) rfl ev_nil)
  have t1 : mTest (mBin gtI (mF (r__law_deep CA 24) (aCons (mVar 12) aNil)) (mC (.int 20))) (S14 x o5 (some (.int i)) o7 o8 o9 (some (.str w)) (some (.int j)) (some (tD t)) od) (bT p1 ts) = .ok (decide ((20 : Int) < t.deep)) (bT p1 ts) := ev_test ((ev_bin ((v12 _).trans d1) (r' := .val (.int 20)) (b' := bT p1 ts) rfl).trans rfl)
  have t2 : mTest (mBin gtI (mF (r__law_many CA 24) (aCons (mVar 12) aNil)) (mC (.int 60))) (S14 x o5 (some (.int i)) o7 o8 o9 (some (.str w)) (some (.int j)) (some (tD t)) od) (bT p1 ts) = .ok (decide ((60 : Int) < t.lv)) (bT p1 ts) := ev_test ((ev_bin ((v12 _).trans d2) (r' := .val (.int 60)) (b' := bT p1 ts) rfl).trans rfl)
  -- the rest, whatever tree it is
  have fin : ∀ (u : Tr) (p2 : Pn) (ρ : Sl), TV AB 20 60 u → PO p2 (k + 20) → (ρ = S14 x o5 (some (.int i)) (some (fD u)) o8 o9 (some (.str w)) (some (.int j)) (some (tD u)) od) →
      mSeq (mExpr (mBm appD (mVar 3) (aCons (mVar 7) aNil))) (mSeq (mExpr (mBm appD (mVar 2) (aCons (mVar 12) aNil))) (mExpr (mBm appD (mVar 4) (aCons (mF (r__law_said CA) (aCons (mVar 7) aNil)) aNil)))) ρ (bT p2 ts) = .nx ρ (bT p2 (ts ++ [u])) := fun u p2 ρ hu hpu er => by
    subst er
    have hw := hu.fw (by decide) (by decide)
    have lz : ∀ f : Tr → D, (ts.map f).length < sizeLine := fun f => by rw [List.length_map]; exact Nat.lt_of_le_of_lt h2 (by decide)
    have a1 : mExpr (mBm appD (mVar 3) (aCons (mVar 7) aNil)) (S14 x o5 (some (.int i)) (some (fD u)) o8 o9 (some (.str w)) (some (.int j)) (some (tD u)) od) (bT p2 ts) = .nx (S14 x o5 (some (.int i)) (some (fD u)) o8 o9 (some (.str w)) (some (.int j)) (some (tD u)) od) [pD p2, TL ts, FL (ts ++ [u]), SL ts] := by
      rw [ev_app (n := 2) (xs := ts.map fD) (d := fD u) (b := bT p2 ts) rfl rfl (ev_cons (r := .val (fD u)) (b := bT p2 ts) rfl ev_nil) rfl (lz _), map_snoc]
      rfl
    have a2 : mExpr (mBm appD (mVar 2) (aCons (mVar 12) aNil)) (S14 x o5 (some (.int i)) (some (fD u)) o8 o9 (some (.str w)) (some (.int j)) (some (tD u)) od) [pD p2, TL ts, FL (ts ++ [u]), SL ts] = .nx (S14 x o5 (some (.int i)) (some (fD u)) o8 o9 (some (.str w)) (some (.int j)) (some (tD u)) od) [pD p2, TL (ts ++ [u]), FL (ts ++ [u]), SL ts] := by
      rw [ev_app (n := 1) (xs := ts.map tD) (d := tD u) (b := [pD p2, TL ts, FL (ts ++ [u]), SL ts]) rfl rfl (ev_cons (r := .val (tD u)) (b := [pD p2, TL ts, FL (ts ++ [u]), SL ts]) rfl ev_nil) rfl (lz _), map_snoc]
      rfl
    have hcb : Cb [pD p2, TL (ts ++ [u]), FL (ts ++ [u]), SL ts] := by
      show ((pD p2).cl 4 && (D.cls 4 ((ts ++ [u]).map tD) && (D.cls 4 ((ts ++ [u]).map fD) && (D.cls 4 (ts.map fun t => D.str (S t)) && true)))) = true
      rw [cl_p, cls_tD, cls_fD, cls_sD]; rfl
    have e3 : mF (r__law_said CA) (aCons (mVar 7) aNil) (S14 x o5 (some (.int i)) (some (fD u)) o8 o9 (some (.str w)) (some (.int j)) (some (tD u)) od) [pD p2, TL (ts ++ [u]), FL (ts ++ [u]), SL ts] = .ok (.val (.str (S u))) [pD p2, TL (ts ++ [u]), FL (ts ++ [u]), SL ts] := (ev_F (ev_cons (r := .val (fD u)) (b := [pD p2, TL (ts ++ [u]), FL (ts ++ [u]), SL ts]) rfl ev_nil)).trans (said_ok CA hcb hw (ab_or hu))
    have a3 : mExpr (mBm appD (mVar 4) (aCons (mF (r__law_said CA) (aCons (mVar 7) aNil)) aNil)) (S14 x o5 (some (.int i)) (some (fD u)) o8 o9 (some (.str w)) (some (.int j)) (some (tD u)) od) [pD p2, TL (ts ++ [u]), FL (ts ++ [u]), SL ts] = .nx (S14 x o5 (some (.int i)) (some (fD u)) o8 o9 (some (.str w)) (some (.int j)) (some (tD u)) od) (bT p2 (ts ++ [u])) := by
      rw [ev_app (n := 3) (xs := ts.map fun t => D.str (S t)) (d := D.str (S u)) (b := [pD p2, TL (ts ++ [u]), FL (ts ++ [u]), SL ts]) rfl rfl (ev_cons e3 ev_nil) rfl (lz _), map_snoc (fun t => D.str (S t))]
      rfl
    exact (ev_seq a1).trans ((ev_seq a2).trans a3)
  by_cases hs : 20 < t.deep ∨ 60 < t.lv
  · have tt : mOr (mTest (mBin gtI (mF (r__law_deep CA 24) (aCons (mVar 12) aNil)) (mC (.int 20)))) (mTest (mBin gtI (mF (r__law_many CA 24) (aCons (mVar 12) aNil)) (mC (.int 60)))) (S14 x o5 (some (.int i)) o7 o8 o9 (some (.str w)) (some (.int j)) (some (tD t)) od) (bT p1 ts) = .ok true (bT p1 ts) := by
      by_cases z : 20 < t.deep
      · rw [decide_eq_true (by omega : (20 : Int) < t.deep)] at t1
        exact ev_orT t1
      · rw [decide_eq_false (by omega : ¬ (20 : Int) < t.deep)] at t1
        rw [decide_eq_true (by omega : (60 : Int) < t.lv)] at t2
        exact (ev_orF t1).trans t2
    obtain ⟨r, u, p2, e2, er, _, hu, g2⟩ := leaf_ok_b CA (cs := ["b", "a"]) g1 (by omega) (cr_T ts) (by decide) (by decide)
    have hu2 : TV AB 20 60 u := (hu.imp fun c hc => by
      simp only [List.mem_cons, List.not_mem_nil, or_false] at hc ⊢
      exact hc.symm).mono (by omega) (by omega)
    have s2 : mAsg (mF (r__law_leaf_b CA) (aCons (mVar 1) (aCons (mLst (aCons (mC (.str "b")) (aCons (mC (.str "a")) aNil))) aNil))) (gN 12) (S14 x o5 (some (.int i)) o7 o8 o9 (some (.str w)) (some (.int j)) (some (tD t)) od) (bT p1 ts) = .nx (S14 x o5 (some (.int i)) o7 o8 o9 (some (.str w)) (some (.int j)) (some (tD u)) od) (bT p2 ts) := by
      rw [ev_asg (i := 12) ((ev_F (ev_cons (r := .val (.box 0)) (b := bT p1 ts) rfl (ev_cons (r := .new (.lst (([("b" : Str), "a"]).map D.str))) (b := bT p1 ts) rfl ev_nil))).trans e2), er]
      rfl
    have s3 : mAsg (mF (r__law_condition CA) (aCons (mVar 12) aNil)) (gN 7) (S14 x o5 (some (.int i)) o7 o8 o9 (some (.str w)) (some (.int j)) (some (tD u)) od) (bT p2 ts) = .nx (S14 x o5 (some (.int i)) (some (fD u)) o8 o9 (some (.str w)) (some (.int j)) (some (tD u)) od) (bT p2 ts) :=
      ev_asg (i := 7) ((ev_F (ev_cons (r := .val (tD u)) (b := bT p2 ts) rfl ev_nil)).trans (cd_ok CA (cb_T p2 ts) hu.deep hu.cn))
    refine ⟨u, p2, some (.int i), some (fD u), some (.str w), some (.int j), some (tD u), ?_, hu2, g2.mono (by omega)⟩
    exact (ev_seq s1).trans ((ev_seq ((ev_ifT tt).trans ((ev_seq s2).trans s3))).trans (fin u p2 _ hu2 (g2.mono (by omega)) rfl))
  · have tt : mOr (mTest (mBin gtI (mF (r__law_deep CA 24) (aCons (mVar 12) aNil)) (mC (.int 20)))) (mTest (mBin gtI (mF (r__law_many CA 24) (aCons (mVar 12) aNil)) (mC (.int 60)))) (S14 x o5 (some (.int i)) o7 o8 o9 (some (.str w)) (some (.int j)) (some (tD t)) od) (bT p1 ts) = .ok false (bT p1 ts) := by
      rw [decide_eq_false (by omega : ¬ (20 : Int) < t.deep)] at t1
      rw [decide_eq_false (by omega : ¬ (60 : Int) < t.lv)] at t2
      exact (ev_orF t1).trans t2
    have hu2 : TV AB 20 60 t := ⟨by omega, by omega, tv.cols, tv.cn⟩
    have s3 : mAsg (mF (r__law_built_b CA) (aCons (mVar 3) (aCons (mVar 10) (aCons (mVar 6) (aCons (mVar 11) aNil))))) (gN 7) (S14 x o5 (some (.int i)) o7 o8 o9 (some (.str w)) (some (.int j)) (some (tD t)) od) (bT p1 ts) = .nx (S14 x o5 (some (.int i)) (some (fD t)) o8 o9 (some (.str w)) (some (.int j)) (some (tD t)) od) (bT p1 ts) :=
      ev_asg (i := 7) ((ev_F (ev_cons (r := .val (.box 2)) (b := bT p1 ts) rfl (ev_cons (r := .val (.str w)) (b := bT p1 ts) rfl (ev_cons (r := .val (.int i)) (b := bT p1 ts) rfl (ev_cons (r := .val (.int j)) (b := bT p1 ts) rfl ev_nil))))).trans (bb_ok CA hn (hu2.fw (by decide) (by decide))))
    refine ⟨t, p1, some (.int i), some (fD t), some (.str w), some (.int j), some (tD t), ?_, hu2, g1.mono (by omega)⟩
    exact (ev_seq s1).trans ((ev_seq ((ev_ifF tt).trans s3)).trans (fin t p1 _ hu2 (g1.mono (by omega)) rfl))
theorem tn_loop (CA : Ly) {x : D} {o8 o9 od : Option D} : ∀ (ds : List D) (ts : List Tr) (p : Pn) (k : Int) (o5 o6 o7 oa ob oc : Option D), PO p k → k + 20 * ds.length < 800000 → 1 ≤ ts.length → ts.length + ds.length ≤ 90 → (∀ t ∈ ts, TV AB 20 60 t) →
    ∃ (ts' : List Tr) (p' : Pn) (q5 q6 q7 qa qb qc : Option D), loop (gN 5) (m_tn CA) ds (S14 x o5 o6 o7 o8 o9 oa ob oc od) (bT p ts) = .nx (S14 x q5 q6 q7 o8 o9 qa qb qc od) (bT p' ts') ∧ (∀ t ∈ ts', TV AB 20 60 t) ∧ ts'.length = ts.length + ds.length
  | [], ts, p, k, o5, o6, o7, oa, ob, oc, hp, _, _, _, ht => ⟨ts, p, o5, o6, o7, oa, ob, oc, rfl, ht, rfl⟩
  | d :: ds, ts, p, k, o5, o6, o7, oa, ob, oc, hp, hk, h1, h2, ht => by
    simp only [List.length_cons] at hk h2
    obtain ⟨t, p1, q6, q7, qa, qb, qc, e1, hu, g1⟩ := tn_ok CA (x := x) (o5 := some d) (o6 := o6) (o7 := o7) (o8 := o8) (o9 := o9) (oa := oa) (ob := ob) (oc := oc) (od := od) hp (by omega) h1 (by omega) ht
    obtain ⟨ts2, p2, y5, y6, y7, ya, yb, yc, e2, hv, hl⟩ := tn_loop CA ds (ts ++ [t]) p1 (k + 20) (some d) q6 q7 qa qb qc g1 (by omega) (by simp) (by rw [List.length_append, List.length_singleton]; omega) (fun z hz => by
      rcases List.mem_append.mp hz with hz | hz
      · exact ht z hz
      · rw [List.mem_singleton.mp hz]; exact hu)
    refine ⟨ts2, p2, y5, y6, y7, ya, yb, yc, (loop_nx (ρ1 := S14 x (some d) o6 o7 o8 o9 oa ob oc od) rfl e1).trans e2, hv, ?_⟩
    rw [hl, List.length_append, List.length_singleton, List.length_cons]
    omega
/-! ### the first three -/
theorem tc_ok (CA : Ly) {ρ : Sl} (h1 : ∀ d : D, (ρ.set 5 (some d))[1]? = some (some (.box 0))) : ∀ (ds : List D) (acc : List Tr) (p : Pn) (k : Int), PO p k → k + 6 * ds.length < 900000 → acc.length + ds.length ≤ 1000 →
    ∃ (ts : List Tr) (p' : Pn), compL (gN 5) mYes (mF (r__law_leaf_b CA) (aCons (mVar 1) (aCons (mLst (aCons (mC (.str "a")) (aCons (mC (.str "b")) aNil))) aNil))) ds ρ [pD p] (acc.map tD) = .ok ((acc ++ ts).map tD) [pD p'] ∧ ts.length = ds.length ∧ (∀ t ∈ ts, TV AB 1 1 t) ∧ PO p' (k + 6 * ds.length)
  | [], acc, p, k, hp, _, _ => ⟨[], p, by rw [List.append_nil]; rfl, rfl, fun t h => by simp at h, by simpa using hp⟩
  | d :: ds, acc, p, k, hp, hk, hl => by
    simp only [List.length_cons] at hk hl
    obtain ⟨r, t, p1, e1, er, _, ht, g1⟩ := leaf_ok_b CA (cs := ["a", "b"]) (rest := []) hp (by omega) (cr_strs []) (by decide) (by decide)
    obtain ⟨ts, p2, e2, l2, hts, g2⟩ := tc_ok CA h1 ds (acc ++ [t]) p1 (k + 6) g1 (by omega) (by rw [List.length_append, List.length_singleton]; omega)
    have v1 : mVar 1 (ρ.set 5 (some d)) [pD p] = .ok (.val (.box 0)) [pD p] := by unfold mVar; rw [h1 d]
    refine ⟨t :: ts, p2, ?_, by simp [l2], fun z hz => ?_, g2.mono (by simp only [List.length_cons]; omega)⟩
    · unfold compL
      rw [show gN 5 d ρ = some (ρ.set 5 (some d)) from rfl]
      simp only [mYes, noX, Out.bind_ok, if_true]
      rw [(ev_F (ev_cons v1 (ev_cons (r := .new (.lst (([("a" : Str), "b"]).map D.str))) (b := [pD p]) rfl ev_nil))).trans e1]
      simp only [Out.bind_ok]
      rw [if_pos (by rw [List.length_map]; exact Nat.lt_of_le_of_lt (show acc.length ≤ 1000 by omega) (by decide)), er, map_snoc]
      refine e2.trans ?_
      simp
    · rcases List.mem_cons.mp hz with rfl | hz
      · exact ht
      · exact hts z hz
end
end Q0

set_option Elab.async false
set_option linter.all false
set_option maxRecDepth 100000
set_option maxHeartbeats 4000000
/-! QJ: the second half, to its end. -/
namespace DL
open PySem
theorem loopE_go {α : Type} (Sim : Sl → Prop) (f : α → D) {g : D → Sl → Option Sl} {m : MS} {n : Nat} {bx : List D} {xs : List α} (hx : bx[n]? = some (D.lst (xs.map f)))
    (h : ∀ (i : Nat) (a : α), xs[i]? = some a → ∀ ρ, Sim ρ → ∃ ρ1 ρ2, g (.tup [.int i, f a]) ρ = some ρ1 ∧ m ρ1 bx = .nx ρ2 bx ∧ Sim ρ2) :
    ∀ (k i : Nat) (ρ : Sl), xs.length < k + i → i ≤ xs.length → Sim ρ → ∃ ρ', loopE g m n k i ρ bx = .nx ρ' bx ∧ Sim ρ'
  | 0, i, ρ, h1, h2, _ => by omega
  | k + 1, i, ρ, h1, h2, hs => by
    unfold loopE
    rw [hx]
    simp only [List.getElem?_map]
    by_cases hi : i < xs.length
    · have e := List.getElem?_eq_getElem hi
      obtain ⟨ρ1, ρ2, e1, e2, e3⟩ := h i xs[i] e ρ hs
      obtain ⟨ρ3, e4, e5⟩ := loopE_go Sim f hx h k (i + 1) ρ2 (by omega) hi e3
      refine ⟨ρ3, ?_, e5⟩
      rw [e]
      simp only [Option.map_some]
      rw [e1]
      simp only [e2]
      exact e4
    · refine ⟨ρ, ?_, hs⟩
      rw [List.getElem?_eq_none (Nat.le_of_not_lt hi)]
      rfl
theorem ev_forE {mi : ME} {g : D → Sl → Option Sl} {m : MS} {k n : Nat} {ρ : Sl} {bx b : List D} (h : mi ρ bx = .ok (.val (.box n)) b) : mForE k mi g m ρ bx = loopE g m n k 0 ρ b := by
  unfold mForE; rw [h]; rfl
end DL
namespace Q0
open PySem DL
theorem neS_self (s : Str) (bx : List D) : neS (.str s) (.str s) bx = OK (.bl false) bx := by
  show OK (.bl (s.cps.toList != s.cps.toList)) bx = _
  rw [bne_self_eq_false]
section
variable {CA : Ly} {bx : List D}
theorem cc_f (hd : DX.Dst dat CA) : (D.adr (CA 1)).cc CA dat.cs = some 11 := by
  have h : ¬ CA 0 = CA 1 := fun e => absurd (hd 0 (by decide) 1 (by decide) e) (by decide)
  show (([0, 1] : List Nat).find? fun c => decide (CA c = CA 1)).map (10 + ·) = _
  simp [List.find?, h]
theorem isi_f (hd : DX.Dst dat CA) {y : D} {t : Nat} (hy : y.tc bx = some t) (ht : t ∈ codes dat.cs) : isiD CA dat.cs dat.kit y (.adr (CA 1)) bx = OK (.bl (dat.kit t 11)) bx := by
  unfold isiD
  rw [hy, cc_f hd]
  exact if_pos ht
theorem fe_yes (hd : DX.Dst dat CA) {t u : Tr} (ht : Cmp t) (hu : Cmp u) : r_Filter___eq__ CA [fD t, fD u] bx = OK (.bl (PyData.eqv (tP t) (tP u))) bx := by
  refine run_rt (r := .val (.bl (PyData.eqv (tP t) (tP u)))) (b := bx) ?_
  show m_Filter___eq__ CA [some (fD t), some (fD u)] bx = _
  refine ev_ret ?_
  have e1 : mCB (un2 (isiD CA dat.cs dat.kit)) (aCons (mVar 1) (aCons (mC (.adr (CA 1))) aNil)) [some (fD t), some (fD u)] bx = .ok (.val (.bl true)) bx := by
    rw [ev_CB (ev_cons (r := .val (fD u)) (b := bx) rfl (ev_cons (r := .val (.adr (CA 1))) (b := bx) rfl ev_nil))]
    exact (isi_f (bx := bx) hd (y := fD u) (t := 11) rfl (by decide)).trans rfl
  refine (ev_andVT e1).trans ?_
  have x0 : mUn (fldD "tree" [1]) (mVar 0) [some (fD t), some (fD u)] bx = .ok (.val (tD t)) bx := rfl
  have x1 : mUn (fldD "tree" [1]) (mVar 1) [some (fD t), some (fD u)] bx = .ok (.val (tD u)) bx := rfl
  exact (ev_bin x0 x1).trans (eq_tr ht hu bx)
theorem fe_no (hd : DX.Dst dat CA) {t : Tr} {y : D} {c : Nat} (hy : y.tc bx = some c) (hc : c ∈ ([0, 1, 2, 3, 4, 5] : List Nat)) : r_Filter___eq__ CA [fD t, y] bx = OK (.bl false) bx := by
  refine run_rt (r := .val (.bl false)) (b := bx) ?_
  show m_Filter___eq__ CA [some (fD t), some y] bx = _
  refine ev_ret ?_
  have hm : c ∈ codes dat.cs := by
    simp only [List.mem_cons, List.not_mem_nil, or_false] at hc
    rcases hc with rfl | rfl | rfl | rfl | rfl | rfl <;> decide
  have hk : dat.kit c 11 = false := by
    simp only [List.mem_cons, List.not_mem_nil, or_false] at hc
    rcases hc with rfl | rfl | rfl | rfl | rfl | rfl <;> rfl
  have e1 : mCB (un2 (isiD CA dat.cs dat.kit)) (aCons (mVar 1) (aCons (mC (.adr (CA 1))) aNil)) [some (fD t), some y] bx = .ok (.val (.bl false)) bx := by
    rw [ev_CB (ev_cons (r := .val y) (b := bx) rfl (ev_cons (r := .val (.adr (CA 1))) (b := bx) rfl ev_nil))]
    refine (isi_f (bx := bx) hd (y := y) hy hm).trans ?_
    rw [hk]
  exact ev_andVF e1
theorem q_eq (hd : DX.Dst dat CA) {t u : Tr} (ht : Cmp t) (hu : Cmp u) : noX (eqC dat.cs 1 (r_Filter___eq__ CA) (fD t) (fD u) bx) = OK (.bl (PyData.eqv (tP t) (tP u))) bx := by
  have e : eqC dat.cs 1 (r_Filter___eq__ CA) (fD t) (fD u) bx = r_Filter___eq__ CA [fD t, fD u] bx := by
    show (if (1 : Nat) = 1 ∧ (11 : Nat) ∈ codes dat.cs then r_Filter___eq__ CA [fD t, fD u] bx else .stk) = _
    exact if_pos ⟨rfl, by decide⟩
  rw [e, fe_yes hd ht hu]; rfl
theorem q_ne (hd : DX.Dst dat CA) {t u : Tr} (ht : Cmp t) (hu : Cmp u) : noX (neC dat.cs 1 (r_Filter___eq__ CA) (fD t) (fD u) bx) = OK (.bl (!PyData.eqv (tP t) (tP u))) bx := by
  have e : neC dat.cs 1 (r_Filter___eq__ CA) (fD t) (fD u) bx = negO (r_Filter___eq__ CA [fD t, fD u] bx) := by
    show (if (1 : Nat) = 1 ∧ (11 : Nat) ∈ codes dat.cs then negO (r_Filter___eq__ CA [fD t, fD u] bx) else .stk) = _
    exact if_pos ⟨rfl, by decide⟩
  rw [e, fe_yes hd ht hu]; rfl
theorem q_eqo (hd : DX.Dst dat CA) {t : Tr} {y : D} {c : Nat} (hy : y.tc bx = some c) (hc : c ∈ ([0, 1, 2, 3, 4, 5] : List Nat)) : noX (eqC dat.cs 1 (r_Filter___eq__ CA) (fD t) y bx) = OK (.bl false) bx := by
  have hm : c ∈ codes dat.cs := by
    have hc2 := hc
    simp only [List.mem_cons, List.not_mem_nil, or_false] at hc2
    rcases hc2 with rfl | rfl | rfl | rfl | rfl | rfl <;> decide
  have e : eqC dat.cs 1 (r_Filter___eq__ CA) (fD t) y bx = r_Filter___eq__ CA [fD t, y] bx := by
    show (match y.tc bx with | some t' => if (1 : Nat) = 1 ∧ t' ∈ codes dat.cs then r_Filter___eq__ CA [fD t, y] bx else .stk | none => .stk) = _
    rw [hy]
    exact if_pos ⟨rfl, hm⟩
  rw [e, fe_no hd hy hc]; rfl
theorem q_neo (hd : DX.Dst dat CA) {t : Tr} {y : D} {c : Nat} (hy : y.tc bx = some c) (hc : c ∈ ([0, 1, 2, 3, 4, 5] : List Nat)) : noX (neC dat.cs 1 (r_Filter___eq__ CA) (fD t) y bx) = OK (.bl true) bx := by
  have hm : c ∈ codes dat.cs := by
    have hc2 := hc
    simp only [List.mem_cons, List.not_mem_nil, or_false] at hc2
    rcases hc2 with rfl | rfl | rfl | rfl | rfl | rfl <;> decide
  have e : neC dat.cs 1 (r_Filter___eq__ CA) (fD t) y bx = negO (r_Filter___eq__ CA [fD t, y] bx) := by
    show (match y.tc bx with | some t' => if (1 : Nat) = 1 ∧ t' ∈ codes dat.cs then negO (r_Filter___eq__ CA [fD t, y] bx) else .stk | none => .stk) = _
    rw [hy]
    exact if_pos ⟨rfl, hm⟩
  rw [e, fe_no hd hy hc]; rfl
theorem q_eqo' (hd : DX.Dst dat CA) {t : Tr} {y : D} {c : Nat} (ho : y.obj bx = none) (hy : y.tc bx = some c) (hc : c ∈ ([0, 1, 2, 3, 4, 5] : List Nat)) : noX (eqC dat.cs 1 (r_Filter___eq__ CA) y (fD t) bx) = OK (.bl false) bx := by
  have e : eqC dat.cs 1 (r_Filter___eq__ CA) y (fD t) bx = r_Filter___eq__ CA [fD t, y] bx := by
    unfold eqC
    rw [ho, hy]
    exact if_pos ⟨hc, rfl⟩
  rw [e, fe_no hd hy hc]; rfl
theorem q_neo' (hd : DX.Dst dat CA) {t : Tr} {y : D} {c : Nat} (ho : y.obj bx = none) (hy : y.tc bx = some c) (hc : c ∈ ([0, 1, 2, 3, 4, 5] : List Nat)) : noX (neC dat.cs 1 (r_Filter___eq__ CA) y (fD t) bx) = OK (.bl true) bx := by
  have e : neC dat.cs 1 (r_Filter___eq__ CA) y (fD t) bx = negO (r_Filter___eq__ CA [fD t, y] bx) := by
    unfold neC
    rw [ho, hy]
    exact if_pos ⟨hc, rfl⟩
  rw [e, fe_no hd hy hc]; rfl
/-! ### alike -/
theorem al_gen (CA : Ly) {x y : D} {e due : Bool} (h1 : noX (eqC dat.cs 1 (r_Filter___eq__ CA) x y bx) = OK (.bl e) bx) (h2 : noX (eqC dat.cs 1 (r_Filter___eq__ CA) y x bx) = OK (.bl e) bx)
    (h3 : noX (neC dat.cs 1 (r_Filter___eq__ CA) x y bx) = OK (.bl (!e)) bx) (h4 : noX (neC dat.cs 1 (r_Filter___eq__ CA) y x bx) = OK (.bl (!e)) bx) : r__law_alike CA [x, y, .bl due] bx = .ok (.val (.bl (e == due))) bx := by
  refine run_rt ?_
  show m__law_alike CA [some x, some y, some (.bl due)] bx = _
  refine ev_ret ?_
  have f1 : mBin (fun x y bx => noX (eqC dat.cs 1 (r_Filter___eq__ CA) x y bx)) (mVar 0) (mVar 1) [some x, some y, some (.bl due)] bx = .ok (.val (.bl e)) bx := (ev_bin (r := .val x) (r' := .val y) (b := bx) (b' := bx) rfl rfl).trans h1
  have f2 : mBin (fun x y bx => noX (eqC dat.cs 1 (r_Filter___eq__ CA) x y bx)) (mVar 1) (mVar 0) [some x, some y, some (.bl due)] bx = .ok (.val (.bl e)) bx := (ev_bin (r := .val y) (r' := .val x) (b := bx) (b' := bx) rfl rfl).trans h2
  have f3 : mBin (fun x y bx => noX (neC dat.cs 1 (r_Filter___eq__ CA) x y bx)) (mVar 0) (mVar 1) [some x, some y, some (.bl due)] bx = .ok (.val (.bl (!e))) bx := (ev_bin (r := .val x) (r' := .val y) (b := bx) (b' := bx) rfl rfl).trans h3
  have f4 : mBin (fun x y bx => noX (neC dat.cs 1 (r_Filter___eq__ CA) x y bx)) (mVar 1) (mVar 0) [some x, some y, some (.bl due)] bx = .ok (.val (.bl (!e))) bx := (ev_bin (r := .val y) (r' := .val x) (b := bx) (b' := bx) rfl rfl).trans h4
  have g1 := ev_lst (ev_cons f1 (ev_cons f2 (ev_cons f3 (ev_cons f4 ev_nil))))
  have g2 : mLst (aCons (mVar 2) (aCons (mVar 2) (aCons (mNotV (mVar 2)) (aCons (mNotV (mVar 2)) aNil)))) [some x, some y, some (.bl due)] bx = .ok (.new (.lst [.bl due, .bl due, .bl (!due), .bl (!due)])) bx := rfl
  refine (ev_bin g1 g2).trans ?_
  cases e <;> cases due <;> rfl
theorem al_f (hd : DX.Dst dat CA) {t u : Tr} (ht : Cmp t) (hu : Cmp u) (due : Bool) : r__law_alike CA [fD t, fD u, .bl due] bx = .ok (.val (.bl (PyData.eqv (tP t) (tP u) == due))) bx := by
  have ec : PyData.eqv (tP u) (tP t) = PyData.eqv (tP t) (tP u) := PySem.W.eqv_comm _ _
  refine al_gen CA (q_eq hd ht hu) ?_ (q_ne hd ht hu) ?_
  · rw [q_eq hd hu ht, ec]
  · rw [q_ne hd hu ht, ec]
theorem al_o (hd : DX.Dst dat CA) {t : Tr} {y : D} {c : Nat} (ho : y.obj bx = none) (hy : y.tc bx = some c) (hc : c ∈ ([0, 1, 2, 3, 4, 5] : List Nat)) : r__law_alike CA [fD t, y, .bl false] bx = .ok (.val (.bl true)) bx :=
  al_gen CA (e := false) (due := false) (q_eqo hd hy hc) (q_eqo' hd ho hy hc) (q_neo hd hy hc) (q_neo' hd ho hy hc)
end
theorem cmp_tv {t : Tr} {d n : Nat} (h : TV AB d n t) (hd : d ≤ 40) : Cmp t := ⟨fun c hc => by
  rcases ab_or h c hc with rfl | rfl
  · exact (by decide +kernel)
  · exact (by decide +kernel), Nat.le_trans h.deep hd⟩
end Q0

set_option Elab.async false
set_option linter.all false
set_option maxRecDepth 100000
set_option maxHeartbeats 4000000
/-! QK: the loops at the end of the second half, and the whole. -/
namespace Q0
open PySem DL
section
variable {CA : Ly} {p : Pn} {ts : List Tr}
abbrev m_in (CA : Ly) : MS := (mIfS (mNot (mTest (mF (r__law_alike CA) (aCons (mVar 7) (aCons (mBin ixD (mVar 3) (mVar 11)) (aCons (mBin eqD (mBin ixD (mVar 2) (mVar 6)) (mBin ixD (mVar 2) (mVar 11))) aNil)))))) (mRet (mC (.bl false))) mSkip)
abbrev m_od (CA : Ly) : MS := (mIfS (mNot (mTest (mF (r__law_alike CA) (aCons (mVar 7) (aCons (mVar 13) (aCons (mC (.bl false)) aNil)))))) (mRet (mC (.bl false))) mSkip)
abbrev m_at (CA : Ly) : MS := (mSeq (mIfS (mOr (mTest (mBin neD (mUn (fldD "tree" [1]) (mVar 7)) (mBin ixD (mVar 2) (mVar 6)))) (mOr (mTest (mBin neS (mF (r__law_said CA) (aCons (mVar 7) aNil)) (mBin ixD (mVar 4) (mVar 6)))) (mTest (mBin neS (mBin ixD (mVar 4) (mVar 6)) (mF (r__law_due_said CA) (aCons (mBin ixD (mVar 2) (mVar 6)) aNil)))))) (mRet (mC (.bl false))) mSkip)
   (mSeq (mFor (iRng1M (mCB (un1 lenD) (aCons (mVar 3) aNil))) (gN 11) (m_in CA))
   (mFor (iSeq (mLst (aCons (mC .non) (aCons (mBin ixD (mVar 2) (mVar 6)) (aCons (mC (.bl true)) (aCons (mC (.int 0)) (aCons (mC (.str "always")) (aCons (mTup aNil) aNil)))))))) (gN 13) (m_od CA))))
/-- the slots in the loop over what was made -/
structure Sat (x : D) (i : Int) (t : Tr) (ρ : Sl) : Prop where
  ex : ∃ o5 o8 o9 oa ob oc od, ρ = S14 x o5 (some (.int i)) (some (fD t)) o8 o9 oa ob oc od
structure Sto (x : D) (ρ : Sl) : Prop where
  ex : ∃ o5 o6 o7 o8 o9 oa ob oc od, ρ = S14 x o5 o6 o7 o8 o9 oa ob oc od
theorem not_no {m : ME} {k : Bool} {ρ : Sl} {bx : List D} (h : m ρ bx = .ok (.val (.bl k)) bx) (hk : k = true) : mIfS (mNot (mTest m)) (mRet (mC (.bl false))) mSkip ρ bx = .nx ρ bx := by
  subst hk
  exact ev_no ((ev_not (ev_test h)).trans rfl)
theorem ix_v {n m : Nat} {ρ : Sl} {i : Int} {j : Nat} {ds : List D} {d : D} {bx : List D} (h1 : ρ[n]? = some (some (.box j))) (h2 : ρ[m]? = some (some (.int i))) (h3 : bx[j]? = some (.lst ds)) (h4 : L2.atI ds i = some d) : mBin ixD (mVar n) (mVar m) ρ bx = .ok (.val d) bx := by
  have e1 : mVar n ρ bx = .ok (.val (.box j)) bx := by unfold mVar; rw [h1]
  have e2 : mVar m ρ bx = .ok (.val (.int i)) bx := by unfold mVar; rw [h2]
  exact (ev_bin e1 e2).trans (ix_box h3 h4)
theorem in_ok (hd : DX.Dst dat CA) {x : D} {i : Int} {t : Tr} (ht : ∀ t ∈ ts, TV AB 20 60 t) (h : Pick ts i t) {ρ : Sl} (hs : Sat x i t ρ) {j : Int} {u : Tr} (hj : Pick ts j u) :
    ∃ ρ2, m_in CA (ρ.set 11 (some (.int j))) (bT p ts) = .nx ρ2 (bT p ts) ∧ Sat x i t ρ2 := by
  obtain ⟨o5, o8, o9, oa, ob, oc, od, rfl⟩ := hs.ex
  refine ⟨S14 x o5 (some (.int i)) (some (fD t)) o8 o9 oa (some (.int j)) oc od, ?_, ⟨o5, o8, o9, oa, some (.int j), oc, od, rfl⟩⟩
  show m_in CA (S14 x o5 (some (.int i)) (some (fD t)) o8 o9 oa (some (.int j)) oc od) (bT p ts) = _
  have c1 := cmp_tv (ht t h.mem) (by decide)
  have c2 := cmp_tv (ht u hj.mem) (by decide)
  have e1 : mBin ixD (mVar 3) (mVar 11) (S14 x o5 (some (.int i)) (some (fD t)) o8 o9 oa (some (.int j)) oc od) (bT p ts) = .ok (.val (fD u)) (bT p ts) := ix_v rfl rfl (j := 2) rfl (hj.ix fD)
  have e2 : mBin ixD (mVar 2) (mVar 6) (S14 x o5 (some (.int i)) (some (fD t)) o8 o9 oa (some (.int j)) oc od) (bT p ts) = .ok (.val (tD t)) (bT p ts) := ix_v rfl rfl (j := 1) rfl (h.ix tD)
  have e3 : mBin ixD (mVar 2) (mVar 11) (S14 x o5 (some (.int i)) (some (fD t)) o8 o9 oa (some (.int j)) oc od) (bT p ts) = .ok (.val (tD u)) (bT p ts) := ix_v rfl rfl (j := 1) rfl (hj.ix tD)
  have e4 := (ev_bin e2 e3).trans (eq_tr c1 c2 (bT p ts))
  refine not_no ?_ (k := PyData.eqv (tP t) (tP u) == PyData.eqv (tP t) (tP u)) (beq_self_eq_true _)
  exact (ev_F (ev_cons (r := .val (fD t)) (b := bT p ts) rfl (ev_cons e1 (ev_cons e4 ev_nil)))).trans (al_f hd c1 c2 _)
theorem od_ok (hd : DX.Dst dat CA) {x : D} {i : Int} {t : Tr} {ρ : Sl} (hs : Sat x i t ρ) {y : D} {c : Nat} (ho : y.obj (bT p ts) = none) (hy : y.tc (bT p ts) = some c) (hc : c ∈ ([0, 1, 2, 3, 4, 5] : List Nat)) :
    ∃ ρ2, m_od CA (ρ.set 13 (some y)) (bT p ts) = .nx ρ2 (bT p ts) ∧ Sat x i t ρ2 := by
  obtain ⟨o5, o8, o9, oa, ob, oc, od, rfl⟩ := hs.ex
  refine ⟨S14 x o5 (some (.int i)) (some (fD t)) o8 o9 oa ob oc (some y), ?_, ⟨o5, o8, o9, oa, ob, oc, some y, rfl⟩⟩
  show m_od CA (S14 x o5 (some (.int i)) (some (fD t)) o8 o9 oa ob oc (some y)) (bT p ts) = _
  refine not_no ?_ (k := true) rfl
  exact (ev_F (ev_cons (r := .val (fD t)) (b := bT p ts) rfl (ev_cons (r := .val y) (b := bT p ts) rfl (ev_cons (r := .val (.bl false)) (b := bT p ts) rfl ev_nil)))).trans (al_o hd ho hy hc)
theorem ev_rngE {m : ME} {j : Int} {ρ : Sl} {bx b : List D} (e : m ρ bx = .ok (.val (.int j)) b) (h : -(2 ^ 62) ≤ j ∧ j < 2 ^ 62) : iRng1M m ρ bx = .ok (rng 0 j.toNat) b := by
  unfold iRng1M
  rw [e]
  exact if_pos h
theorem tree_tup (t : Tr) : ∃ ds, tD t = .tup ds := by cases t <;> exact ⟨_, rfl⟩
theorem at_ok (hd : DX.Dst dat CA) {x : D} {i : Int} {t : Tr} (hl : ts.length ≤ 90) (ht : ∀ t ∈ ts, TV AB 20 60 t) (h : Pick ts i t) {o5 o8 o9 oa ob oc od : Option D} :
    ∃ ρ2, m_at CA (S14 x o5 (some (.int i)) (some (fD t)) o8 o9 oa ob oc od) (bT p ts) = .nx ρ2 (bT p ts) ∧ Sto x ρ2 := by
  have tv := ht t h.mem
  have c1 := cmp_tv tv (by decide)
  have hw := tv.fw (by decide) (by decide)
  have hb := cb_T p ts
  have e2 : mBin ixD (mVar 2) (mVar 6) (S14 x o5 (some (.int i)) (some (fD t)) o8 o9 oa ob oc od) (bT p ts) = .ok (.val (tD t)) (bT p ts) := ix_v rfl rfl (j := 1) rfl (h.ix tD)
  have e4 : mBin ixD (mVar 4) (mVar 6) (S14 x o5 (some (.int i)) (some (fD t)) o8 o9 oa ob oc od) (bT p ts) = .ok (.val (.str (S t))) (bT p ts) := ix_v rfl rfl (j := 3) rfl (h.ix fun t => D.str (S t))
  have t1 : mTest (mBin neD (mUn (fldD "tree" [1]) (mVar 7)) (mBin ixD (mVar 2) (mVar 6))) (S14 x o5 (some (.int i)) (some (fD t)) o8 o9 oa ob oc od) (bT p ts) = .ok false (bT p ts) := by
    refine ev_test ((ev_bin (r := .val (tD t)) (b := bT p ts) rfl e2).trans ?_)
    refine (ne_tr c1 c1 (bT p ts)).trans ?_
    rw [eqv_self c1]
    rfl
  have t2 : mTest (mBin neS (mF (r__law_said CA) (aCons (mVar 7) aNil)) (mBin ixD (mVar 4) (mVar 6))) (S14 x o5 (some (.int i)) (some (fD t)) o8 o9 oa ob oc od) (bT p ts) = .ok false (bT p ts) :=
    ev_test ((ev_bin ((ev_F (ev_cons (r := .val (fD t)) (b := bT p ts) rfl ev_nil)).trans (said_ok CA hb hw (ab_or tv))) e4).trans (neS_self _ _))
  have t3 : mTest (mBin neS (mBin ixD (mVar 4) (mVar 6)) (mF (r__law_due_said CA) (aCons (mBin ixD (mVar 2) (mVar 6)) aNil))) (S14 x o5 (some (.int i)) (some (fD t)) o8 o9 oa ob oc od) (bT p ts) = .ok false (bT p ts) :=
    ev_test ((ev_bin e4 ((ev_F (ev_cons e2 ev_nil)).trans (due_ok CA hb hw (ab_or tv)))).trans (neS_self _ _))
  have s1 : mIfS (mOr (mTest (mBin neD (mUn (fldD "tree" [1]) (mVar 7)) (mBin ixD (mVar 2) (mVar 6)))) (mOr (mTest (mBin neS (mF (r__law_said CA) (aCons (mVar 7) aNil)) (mBin ixD (mVar 4) (mVar 6)))) (mTest (mBin neS (mBin ixD (mVar 4) (mVar 6)) (mF (r__law_due_said CA) (aCons (mBin ixD (mVar 2) (mVar 6)) aNil)))))) (mRet (mC (.bl false))) mSkip (S14 x o5 (some (.int i)) (some (fD t)) o8 o9 oa ob oc od) (bT p ts) = .nx (S14 x o5 (some (.int i)) (some (fD t)) o8 o9 oa ob oc od) (bT p ts) :=
    ev_no ((ev_orF t1).trans ((ev_orF t2).trans t3))
  have el : mCB (un1 lenD) (aCons (mVar 3) aNil) (S14 x o5 (some (.int i)) (some (fD t)) o8 o9 oa ob oc od) (bT p ts) = .ok (.val (.int ts.length)) (bT p ts) := by
    have z := len_box (i := 3) (n := 2) (ρ := S14 x o5 (some (.int i)) (some (fD t)) o8 o9 oa ob oc od) (bx := bT p ts) (xs := ts.map fD) rfl rfl
    rw [List.length_map] at z
    exact z
  have it : iRng1M (mCB (un1 lenD) (aCons (mVar 3) aNil)) (S14 x o5 (some (.int i)) (some (fD t)) o8 o9 oa ob oc od) (bT p ts) = .ok (rng 0 ts.length) (bT p ts) := by
    have z := ev_rngE el ⟨by omega, by omega⟩
    rw [Int.toNat_natCast] at z
    exact z
  obtain ⟨ρ1, l1, h1⟩ := loop_all (Sat x i t) (g := gN 11) (m := m_in CA) (bx := bT p ts) (rng 0 ts.length) (fun d hdm ρ hs => by
    obtain ⟨j, hj⟩ := List.mem_iff_getElem?.mp hdm
    obtain ⟨hj1, rfl⟩ := rng_get hj
    obtain ⟨u, hu⟩ := pick_of (ts := ts) (i := 0 + (j : Int)) (by omega) (by omega)
    obtain ⟨ρ2, e, q⟩ := in_ok (CA := CA) (p := p) hd ht h hs hu
    exact ⟨_, ρ2, rfl, e, q⟩) (S14 x o5 (some (.int i)) (some (fD t)) o8 o9 oa ob oc od) ⟨o5, o8, o9, oa, ob, oc, od, rfl⟩
  have s2 := (ev_for it).trans l1
  obtain ⟨y5, y8, y9, ya, yb, yc, yd, rfl⟩ := h1.ex
  have e2' : mBin ixD (mVar 2) (mVar 6) (S14 x y5 (some (.int i)) (some (fD t)) y8 y9 ya yb yc yd) (bT p ts) = .ok (.val (tD t)) (bT p ts) := ix_v rfl rfl (j := 1) rfl (h.ix tD)
  have el3 := ev_lst (ev_cons (r := .val .non) (m := mC .non) (ρ := S14 x y5 (some (.int i)) (some (fD t)) y8 y9 ya yb yc yd) (bx := bT p ts) (b := bT p ts) rfl (ev_cons e2' (ev_cons (r := .val (.bl true)) (m := mC (.bl true)) (b := bT p ts) rfl (ev_cons (r := .val (.int 0)) (m := mC (.int 0)) (b := bT p ts) rfl (ev_cons (r := .val (.str "always")) (m := mC (.str "always")) (b := bT p ts) rfl (ev_cons (r := .val (.tup [])) (m := mTup aNil) (b := bT p ts) rfl ev_nil))))))
  obtain ⟨ρ3, l3, h3⟩ := loop_all (Sat x i t) (g := gN 13) (m := m_od CA) (bx := bT p ts) [.non, tD t, .bl true, .int 0, .str "always", .tup []] (fun d hdm ρ hs => by
    have go : ∀ (c : Nat), d.obj (bT p ts) = none → d.tc (bT p ts) = some c → c ∈ ([0, 1, 2, 3, 4, 5] : List Nat) → ∃ ρ1 ρ2, gN 13 d ρ = some ρ1 ∧ m_od CA ρ1 (bT p ts) = .nx ρ2 (bT p ts) ∧ Sat x i t ρ2 := fun c ho hy hc => by
      obtain ⟨ρ2, e, q⟩ := od_ok (CA := CA) (p := p) (ts := ts) hd hs ho hy hc
      refine ⟨_, ρ2, ?_, e, q⟩
      obtain ⟨o5, o8, o9, oa, ob, oc, od, rfl⟩ := hs.ex
      rfl
    simp only [List.mem_cons, List.not_mem_nil, or_false] at hdm
    rcases hdm with rfl | rfl | rfl | rfl | rfl | rfl
    · exact go 0 rfl rfl (by decide)
    · obtain ⟨ds, e⟩ := tree_tup t
      exact go 4 (by rw [e]; rfl) (by rw [e]; rfl) (by decide)
    · exact go 1 rfl rfl (by decide)
    · exact go 2 rfl rfl (by decide)
    · exact go 3 rfl rfl (by decide)
    · exact go 4 rfl rfl (by decide)) (S14 x y5 (some (.int i)) (some (fD t)) y8 y9 ya yb yc yd) h1
  have s3 := (ev_for (ev_iseq el3 rfl)).trans l3
  obtain ⟨z5, z8, z9, za, zb, zc, zd, rfl⟩ := h3.ex
  exact ⟨_, (ev_seq s1).trans ((ev_seq s2).trans s3), ⟨_, _, _, _, _, _, _, _, _, rfl⟩⟩
theorem atl_ok (hd : DX.Dst dat CA) {x : D} (hl : ts.length ≤ 90) (ht : ∀ t ∈ ts, TV AB 20 60 t) {ρ : Sl} (hs : Sto x ρ) :
    ∃ ρ', mForE 99 (mVar 3) (gTup [(gN 6), (gN 7)]) (m_at CA) ρ (bT p ts) = .nx ρ' (bT p ts) ∧ Sto x ρ' := by
  obtain ⟨ρ', e, h⟩ := loopE_go (Sto x) fD (g := gTup [(gN 6), (gN 7)]) (m := m_at CA) (n := 2) (bx := bT p ts) (xs := ts) rfl (fun i t ht' ρ hs => by
    obtain ⟨o5, o6, o7, o8, o9, oa, ob, oc, od, rfl⟩ := hs.ex
    have hp : Pick ts (i : Int) t := ⟨by omega, by have := (List.getElem?_eq_some_iff.mp ht').1; omega, by simpa using ht'⟩
    obtain ⟨ρ2, e, q⟩ := at_ok (CA := CA) (p := p) (x := x) hd hl ht hp (o5 := o5) (o8 := o8) (o9 := o9) (oa := oa) (ob := ob) (oc := oc) (od := od)
    exact ⟨_, ρ2, rfl, e, q⟩) 99 0 ρ (by omega) (by omega) hs
  refine ⟨ρ', ?_, h⟩
  obtain ⟨o5, o6, o7, o8, o9, oa, ob, oc, od, rfl⟩ := hs.ex
  exact (ev_forE rfl).trans e
/-! ### the tail -/
abbrev c13 : List Stretch := [(some 1, some 1), (some 3, some 3)]
abbrev c1t3 : List Stretch := [(some 1, some 3)]
theorem can13 : Canon c13 := ⟨fun s hs => by
  simp only [List.mem_cons, List.not_mem_nil, or_false] at hs
  rcases hs with rfl | rfl <;> (intro a b h1 h2; cases h1; cases h2; omega), by
  refine List.pairwise_cons.mpr ⟨fun z hz => ?_, List.pairwise_cons.mpr ⟨fun z hz => by simp at hz, List.Pairwise.nil⟩⟩
  rw [List.mem_singleton.mp hz]
  exact ⟨1, 3, rfl, rfl, by omega⟩⟩
theorem can1t3 : Canon c1t3 := ⟨fun s hs => by
  rw [List.mem_singleton.mp hs]
  intro a b h1 h2; cases h1; cases h2; omega, List.pairwise_cons.mpr ⟨fun z hz => by simp at hz, List.Pairwise.nil⟩⟩
theorem mem13 (k : Int) : mem c13 k ↔ k = 1 ∨ k = 3 := by
  rw [mem_cons, mem_one]
  simp only [inS, Option.some.injEq, forall_eq']
  omega
theorem mem1t3 (k : Int) : mem c1t3 k ↔ 1 ≤ k ∧ k ≤ 3 := by
  rw [mem_one]
  simp only [inS, Option.some.injEq, forall_eq']
section
variable {bx : List D}
theorem of31 (CA : Ly) (hb : Cb bx) : r_Ranges_of CA [.adr (CA 0), .int 3, .int 1] bx = .ok (.new (rD c13)) bx := by
  obtain ⟨c, e, h1, h2⟩ := o_of CA [3, 1] (n := 2) (by simp) (by omega) hb
  rw [canon_unique c c13 h1.c can13 fun n => by
    rw [h2, mem13]
    simp only [List.mem_cons, List.not_mem_nil, or_false]
    omega] at e
  exact e
theorem or31 (CA : Ly) (hb : Cb bx) : ∃ c, r_Ranges_of CA [.adr (CA 0), .int 2] bx = .ok (.new (rD c)) bx ∧ noX (binC 0 (r_Ranges___or__ CA) (rD c13) (rD c) bx) = .ok (.new (rD c1t3)) bx := by
  obtain ⟨c, e, h1, h2⟩ := o_of CA [2] (n := 1) (by simp) (by omega) hb
  obtain ⟨c', e', h1', h2'⟩ := o_or CA hb (a := c13) (b := c) (n := 2) (m := 1) ⟨can13, by simp⟩ h1 (by omega)
  refine ⟨c, e, ?_⟩
  rw [canon_unique c' c1t3 h1'.c can1t3 fun n => by
    rw [h2', mem13, h2, mem1t3]
    simp only [List.mem_cons, List.not_mem_nil, or_false]
    omega] at e'
  exact e'
theorem bt31 (CA : Ly) (hb : Cb bx) : r_Ranges_between CA [.adr (CA 0), .int 1, .int 3] bx = .ok (.new (rD c1t3)) bx := by
  obtain ⟨c, e, h1, h2⟩ := o_between CA (some 1) (some 3) hb
  rw [canon_unique c c1t3 h1.c can1t3 fun n => by rw [h2, ← mem_one]] at e
  exact e
end
theorem cmp_w (c : Str) (h : c = "a" ∨ c = "b") : Cmp (.win c c1t3) := ⟨fun d hd => by
  rw [show d = c from List.mem_singleton.mp hd]
  rcases h with rfl | rfl
  · exact (by decide +kernel)
  · exact (by decide +kernel), by show 1 ≤ 40; omega⟩
theorem ab_ne : PyData.eqv (tP (.win "a" c1t3)) (tP (.win "b" c1t3)) = false := by
  show PyData.eqv (.tuple [.str "within", .str "a", .tuple (c1t3.map sP)]) (.tuple [.str "within", .str "b", .tuple (c1t3.map sP)]) = false
  simp only [PyData.eqv, PyData.eqvAll]
  decide +kernel
end
end Q0

set_option Elab.async false
set_option linter.all false
set_option maxRecDepth 100000
set_option maxHeartbeats 4000000
/-! QL: the tail of the second half, and the second half whole. -/
namespace Q0
open PySem DL
section
variable {CA : Ly} {bx : List D}
abbrev m_tail (CA : Ly) : MS := (mSeq (mAsg (mCM (CA 0) (r_Ranges_of CA) (mC (.adr (CA 0))) (aCons (mC (.int 3)) (aCons (mC (.int 1)) aNil))) (gN 8))
  (mSeq (mAsg (mCM (CA 1) (r_Filter_within CA) (mC (.adr (CA 1))) (aCons (mC (.str "a")) (aCons (mBin (fun x y bx => noX (binC 0 (r_Ranges___or__ CA) x y bx)) (mVar 8) (mCM (CA 0) (r_Ranges_of CA) (mC (.adr (CA 0))) (aCons (mC (.int 2)) aNil))) aNil))) (gN 9))
  (mSeq (mIfS (mOr (mNot (mTest (mF (r__law_alike CA) (aCons (mVar 9) (aCons (mCM (CA 1) (r_Filter_within CA) (mC (.adr (CA 1))) (aCons (mC (.str "a")) (aCons (mCM (CA 0) (r_Ranges_between CA) (mC (.adr (CA 0))) (aCons (mC (.int 1)) (aCons (mC (.int 3)) aNil))) aNil))) (aCons (mC (.bl true)) aNil)))))) (mTest (mBin neD (mUn (fldD "tree" [1]) (mVar 9)) (mTup (aCons (mC (.str "within")) (aCons (mC (.str "a")) (aCons (mTup (aCons (mTup (aCons (mC (.int 1)) (aCons (mC (.int 3)) aNil))) aNil)) aNil))))))) (mRet (mC (.bl false))) mSkip)
  (mSeq (mIfS (mOr (mTest (mBin neD (mUn (fldD "parts" [0]) (mVar 8)) (mTup (aCons (mTup (aCons (mC (.int 1)) (aCons (mC (.int 1)) aNil))) (aCons (mTup (aCons (mC (.int 3)) (aCons (mC (.int 3)) aNil))) aNil))))) (mTest (mF (r__law_alike CA) (aCons (mVar 9) (aCons (mCM (CA 1) (r_Filter_within CA) (mC (.adr (CA 1))) (aCons (mC (.str "b")) (aCons (mCM (CA 0) (r_Ranges_between CA) (mC (.adr (CA 0))) (aCons (mC (.int 1)) (aCons (mC (.int 3)) aNil))) aNil))) (aCons (mC (.bl true)) aNil)))))) (mRet (mC (.bl false))) mSkip)
  (mRet (mAndV (mBin eqD (mUn (fldD "columns" [1]) (mBin (fun x y bx => noX (binC 1 (r_Filter___and__ CA) x y bx)) (mVar 9) (mCM (CA 1) (r_Filter_never CA) (mC (.adr (CA 1))) aNil))) (mTup (aCons (mC (.str "a")) aNil))) (mBin eqD (mUn (fldD "columns" [1]) (mUn (fun x bx => noX (unC 1 (r_Filter___invert__ CA) x bx)) (mCM (CA 1) (r_Filter_always CA) (mC (.adr (CA 1))) aNil))) (mTup aNil))))))))
theorem eq_n {xs : List Str} (h : ∀ x ∈ xs, Nm x) (bx : List D) : eqD (.tup (xs.map .str)) (.tup (xs.map .str)) bx = OK (.bl true) bx := by
  unfold eqD
  rw [toPB_n]
  show (if SeqAt.shaped (.tuple (xs.map .str)) = true ∧ SeqAt.shaped (.tuple (xs.map .str)) = true then OK (.bl (PyData.eqv (.tuple (xs.map .str)) (.tuple (xs.map .str)))) bx else .stk) = _
  rw [if_pos ⟨sh_n h, sh_n h⟩]
  have hl : PyData.canLay0 (.tuple (xs.map .str)) = true := by
    show PyData.canLayAll0 (xs.map PyData.str) = true
    exact lays_n xs h
  rw [SeqAt.eqv_refl _ hl]
theorem wn {c : Str} {st : List Stretch} : Fw 24 62 (.and (.win c st) .nev) ↔ (Tr.ok (.and (.win c st) .nev)) := ⟨fun h => h.ok, fun h => ⟨by show max 1 1 + 1 ≤ 24; omega, by show 1 ≤ 62; omega, h⟩⟩
theorem tail_ok (hd : DX.Dst dat CA) (hb : Cb bx) {x : D} {ρ : Sl} (hs : Sto x ρ) : m_tail CA ρ bx = .rt (.val (.bl true)) bx := by
  obtain ⟨o5, o6, o7, o8, o9, oa, ob, oc, od, rfl⟩ := hs.ex
  have s1 : mAsg (mCM (CA 0) (r_Ranges_of CA) (mC (.adr (CA 0))) (aCons (mC (.int 3)) (aCons (mC (.int 1)) aNil))) (gN 8) (S14 x o5 o6 o7 o8 o9 oa ob oc od) bx = .nx (S14 x o5 o6 o7 (some (rD c13)) o9 oa ob oc od) bx :=
    ev_asg (i := 8) ((ev_CM (ev_cons (r := .val (.int 3)) (b := bx) rfl (ev_cons (r := .val (.int 1)) (b := bx) rfl ev_nil))).trans (of31 CA hb))
  obtain ⟨c, ec1, ec2⟩ := or31 CA hb
  have e2 : mBin (fun x y bx => noX (binC 0 (r_Ranges___or__ CA) x y bx)) (mVar 8) (mCM (CA 0) (r_Ranges_of CA) (mC (.adr (CA 0))) (aCons (mC (.int 2)) aNil)) (S14 x o5 o6 o7 (some (rD c13)) o9 oa ob oc od) bx = .ok (.new (rD c1t3)) bx :=
    (ev_bin (r := .val (rD c13)) (b := bx) rfl ((ev_CM (ev_cons (r := .val (.int 2)) (b := bx) rfl ev_nil)).trans ec1)).trans ec2
  have s2 : mAsg (mCM (CA 1) (r_Filter_within CA) (mC (.adr (CA 1))) (aCons (mC (.str "a")) (aCons (mBin (fun x y bx => noX (binC 0 (r_Ranges___or__ CA) x y bx)) (mVar 8) (mCM (CA 0) (r_Ranges_of CA) (mC (.adr (CA 0))) (aCons (mC (.int 2)) aNil))) aNil))) (gN 9) (S14 x o5 o6 o7 (some (rD c13)) o9 oa ob oc od) bx = .nx (S14 x o5 o6 o7 (some (rD c13)) (some (fD (.win "a" c1t3))) oa ob oc od) bx :=
    ev_asg (i := 9) ((ev_CM (ev_cons (r := .val (.str "a")) (b := bx) rfl (ev_cons e2 ev_nil))).trans (f_within CA hb "a" (st := c1t3) (by decide)))
  have ew : ∀ w : Str, mCM (CA 1) (r_Filter_within CA) (mC (.adr (CA 1))) (aCons (mC (.str w)) (aCons (mCM (CA 0) (r_Ranges_between CA) (mC (.adr (CA 0))) (aCons (mC (.int 1)) (aCons (mC (.int 3)) aNil))) aNil)) (S14 x o5 o6 o7 (some (rD c13)) (some (fD (.win "a" c1t3))) oa ob oc od) bx = .ok (.new (fD (.win w c1t3))) bx := fun w =>
    (ev_CM (ev_cons (r := .val (.str w)) (b := bx) rfl (ev_cons ((ev_CM (ev_cons (r := .val (.int 1)) (b := bx) rfl (ev_cons (r := .val (.int 3)) (b := bx) rfl ev_nil))).trans (bt31 CA hb)) ev_nil))).trans (f_within CA hb w (st := c1t3) (by decide))
  have ca := cmp_w "a" (.inl rfl)
  have cb := cmp_w "b" (.inr rfl)
  have el : ∀ (w : Str) (hw : Cmp (.win w c1t3)), mTest (mF (r__law_alike CA) (aCons (mVar 9) (aCons (mCM (CA 1) (r_Filter_within CA) (mC (.adr (CA 1))) (aCons (mC (.str w)) (aCons (mCM (CA 0) (r_Ranges_between CA) (mC (.adr (CA 0))) (aCons (mC (.int 1)) (aCons (mC (.int 3)) aNil))) aNil))) (aCons (mC (.bl true)) aNil)))) (S14 x o5 o6 o7 (some (rD c13)) (some (fD (.win "a" c1t3))) oa ob oc od) bx = .ok (PyData.eqv (tP (.win "a" c1t3)) (tP (.win w c1t3)) == true) bx := fun w hw =>
    ev_test ((ev_F (ev_cons (r := .val (fD (.win "a" c1t3))) (b := bx) rfl (ev_cons (ew w) (ev_cons (r := .val (.bl true)) (b := bx) rfl ev_nil)))).trans (al_f hd ca hw true))
  have l1 := el "a" ca
  rw [eqv_self ca] at l1
  have l2 := el "b" cb
  rw [ab_ne] at l2
  have t3 : mTest (mBin neD (mUn (fldD "tree" [1]) (mVar 9)) (mTup (aCons (mC (.str "within")) (aCons (mC (.str "a")) (aCons (mTup (aCons (mTup (aCons (mC (.int 1)) (aCons (mC (.int 3)) aNil))) aNil)) aNil))))) (S14 x o5 o6 o7 (some (rD c13)) (some (fD (.win "a" c1t3))) oa ob oc od) bx = .ok false bx := by
    refine ev_test ((ev_bin (r := .val (tD (.win "a" c1t3))) (r' := .val (tD (.win "a" c1t3))) (b := bx) (b' := bx) rfl rfl).trans ((ne_tr ca ca bx).trans ?_))
    rw [eqv_self ca]
    rfl
  have t4 : mTest (mBin neD (mUn (fldD "parts" [0]) (mVar 8)) (mTup (aCons (mTup (aCons (mC (.int 1)) (aCons (mC (.int 1)) aNil))) (aCons (mTup (aCons (mC (.int 3)) (aCons (mC (.int 3)) aNil))) aNil)))) (S14 x o5 o6 o7 (some (rD c13)) (some (fD (.win "a" c1t3))) oa ob oc od) bx = .ok false bx := by
    refine ev_test ((ev_bin (r := .val (.tup (c13.map sD))) (r' := .val (.tup (c13.map sD))) (b := bx) (b' := bx) rfl rfl).trans ((ne_t c13 c13 bx).trans ?_))
    rw [decide_eq_true rfl]
    rfl
  have f1 : mBin (fun x y bx => noX (binC 1 (r_Filter___and__ CA) x y bx)) (mVar 9) (mCM (CA 1) (r_Filter_never CA) (mC (.adr (CA 1))) aNil) (S14 x o5 o6 o7 (some (rD c13)) (some (fD (.win "a" c1t3))) oa ob oc od) bx = .ok (.new (fD (.and (.win "a" c1t3) .nev))) bx :=
    (ev_bin (r := .val (fD (.win "a" c1t3))) (b := bx) rfl ((ev_CM ev_nil).trans (f_never CA hb))).trans (f_and CA hb (wn.mpr (cn_ok (.and (.win "a" c1t3) .nev) ⟨⟨can1t3, by decide⟩, trivial⟩)))
  have f2 : mUn (fun x bx => noX (unC 1 (r_Filter___invert__ CA) x bx)) (mCM (CA 1) (r_Filter_always CA) (mC (.adr (CA 1))) aNil) (S14 x o5 o6 o7 (some (rD c13)) (some (fD (.win "a" c1t3))) oa ob oc od) bx = .ok (.new (fD (.no .alw))) bx :=
    (ev_un ((ev_CM ev_nil).trans (f_always CA hb))).trans (f_no CA hb ⟨by show 2 ≤ 24; omega, by show 0 ≤ 62; omega, trivial⟩)
  have g1 : mBin eqD (mUn (fldD "columns" [1]) (mBin (fun x y bx => noX (binC 1 (r_Filter___and__ CA) x y bx)) (mVar 9) (mCM (CA 1) (r_Filter_never CA) (mC (.adr (CA 1))) aNil))) (mTup (aCons (mC (.str "a")) aNil)) (S14 x o5 o6 o7 (some (rD c13)) (some (fD (.win "a" c1t3))) oa ob oc od) bx = .ok (.val (.bl true)) bx := by
    have es : DN.sortU (Tr.cols (.and (.win "a" c1t3) .nev)) = [("a" : Str)] := by decide +kernel
    have e : mUn (fldD "columns" [1]) (mBin (fun x y bx => noX (binC 1 (r_Filter___and__ CA) x y bx)) (mVar 9) (mCM (CA 1) (r_Filter_never CA) (mC (.adr (CA 1))) aNil)) (S14 x o5 o6 o7 (some (rD c13)) (some (fD (.win "a" c1t3))) oa ob oc od) bx = .ok (.val (.tup ((DN.sortU (Tr.cols (.and (.win "a" c1t3) .nev))).map .str))) bx := (ev_un f1).trans rfl
    rw [es] at e
    exact (ev_bin e (r' := .val (.tup [.str "a"])) (b' := bx) rfl).trans (eq_n (xs := ["a"]) (fun c hc => by
      rw [List.mem_singleton.mp hc]
      exact (by decide +kernel)) bx)
  have g2 : mBin eqD (mUn (fldD "columns" [1]) (mUn (fun x bx => noX (unC 1 (r_Filter___invert__ CA) x bx)) (mCM (CA 1) (r_Filter_always CA) (mC (.adr (CA 1))) aNil))) (mTup aNil) (S14 x o5 o6 o7 (some (rD c13)) (some (fD (.win "a" c1t3))) oa ob oc od) bx = .ok (.val (.bl true)) bx := by
    have es : DN.sortU (Tr.cols (.no .alw)) = ([] : List Str) := by decide +kernel
    have e : mUn (fldD "columns" [1]) (mUn (fun x bx => noX (unC 1 (r_Filter___invert__ CA) x bx)) (mCM (CA 1) (r_Filter_always CA) (mC (.adr (CA 1))) aNil)) (S14 x o5 o6 o7 (some (rD c13)) (some (fD (.win "a" c1t3))) oa ob oc od) bx = .ok (.val (.tup ((DN.sortU (Tr.cols (.no .alw))).map .str))) bx := (ev_un f2).trans rfl
    rw [es] at e
    exact (ev_bin e (r' := .val (.tup [])) (b' := bx) rfl).trans (eq_n (xs := []) (fun c hc => by simp at hc) bx)
  refine (ev_seq s1).trans ((ev_seq s2).trans ((ev_seq (ev_no ((ev_orF ((ev_not l1).trans rfl)).trans t3))).trans ((ev_seq (ev_no ((ev_orF t4).trans l2))).trans (ev_ret ((ev_andVT g1).trans g2)))))
end
/-! ### the whole -/
theorem c_part_two (CA : Ly) (hd : DX.Dst dat CA) (ns : List Int) (hn : ns.length ≤ 63) : r__law_part_two CA [.rol (ns.map .int)] [] = .ok (.val (.bl true)) [] := by
  obtain ⟨p, e1, h1⟩ := c_pen CA ns hn []
  have a1 : mBox (mF (r__law_pen CA) (aCons (mVar 0) aNil)) 1 [some (.rol (ns.map .int)), none, none, none, none, none, none, none, none, none, none, none, none, none] [] = .nx [some (.rol (ns.map .int)), some (.box 0), none, none, none, none, none, none, none, none, none, none, none, none] [pD p] :=
    ev_box (i := 1) ((ev_F (ev_cons (r := .val (.rol (ns.map .int))) (b := []) rfl ev_nil)).trans e1)
  have lr : (rng 0 (3 : Int).toNat).length = 3 := rng_len
  obtain ⟨ts, p1, e2, l2, ht, h2⟩ := tc_ok CA (ρ := [some (.rol (ns.map .int)), some (.box 0), none, none, none, none, none, none, none, none, none, none, none, none]) (fun _ => rfl) (rng 0 (3 : Int).toNat) [] p 0 h1 (by rw [lr]; decide) (by rw [lr]; decide)
  rw [lr] at l2 h2
  have a2 : mBox (mComp (iRng1M (mC (.int 3))) (([("turn", 5)] : List (PySem.Str × Nat)).map (·.2)) (gN 5) mYes (mF (r__law_leaf_b CA) (aCons (mVar 1) (aCons (mLst (aCons (mC (.str "a")) (aCons (mC (.str "b")) aNil))) aNil)))) 2 [some (.rol (ns.map .int)), some (.box 0), none, none, none, none, none, none, none, none, none, none, none, none] [pD p] = .nx [some (.rol (ns.map .int)), some (.box 0), some (.box 1), none, none, none, none, none, none, none, none, none, none, none] [pD p1, TL ts] := by
    refine (ev_box (i := 2) (d := TL ts) (b := [pD p1]) ?_).trans rfl
    unfold mComp
    rw [ev_rng (by decide)]
    show (compL (gN 5) mYes (mF (r__law_leaf_b CA) (aCons (mVar 1) (aCons (mLst (aCons (mC (.str "a")) (aCons (mC (.str "b")) aNil))) aNil))) (rng 0 (3 : Int).toNat) [some (.rol (ns.map .int)), some (.box 0), none, none, none, none, none, none, none, none, none, none, none, none] [pD p] (([] : List Tr).map tD)).bind _ = _
    rw [e2]
    rfl
  have ht2 : ∀ t ∈ ts, TV AB 20 60 t := fun t h => (ht t h).mono (by omega) (by omega)
  have a3 : mBox (mCompB 99 (mVar 2) (([("tree", 12)] : List (PySem.Str × Nat)).map (·.2)) (gN 12) mYes (mF (r__law_condition CA) (aCons (mVar 12) aNil))) 3 [some (.rol (ns.map .int)), some (.box 0), some (.box 1), none, none, none, none, none, none, none, none, none, none, none] [pD p1, TL ts] = .nx [some (.rol (ns.map .int)), some (.box 0), some (.box 1), some (.box 2), none, none, none, none, none, none, none, none, none, none] [pD p1, TL ts, FL ts] := by
    have hb : Cb [pD p1, TL ts] := by
      show ((pD p1).cl 2 && (D.cls 2 (ts.map tD) && true)) = true
      rw [cl_p, cls_tD]; rfl
    refine (ev_box (i := 3) (d := FL ts) (b := [pD p1, TL ts]) (ev_compB tD fD (n := 1) (xs := ts) rfl rfl (by omega) fun t h => ?_)).trans rfl
    exact ⟨[some (.rol (ns.map .int)), some (.box 0), some (.box 1), none, none, none, none, none, none, none, none, none, some (tD t), none], .new (fD t), rfl, (ev_F (ev_cons (r := .val (tD t)) (b := [pD p1, TL ts]) rfl ev_nil)).trans (cd_ok CA hb (ht t h).deep (ht t h).cn), rfl⟩
  have a4 : mBox (mCompB 99 (mVar 3) (([("made", 7)] : List (PySem.Str × Nat)).map (·.2)) (gN 7) mYes (mF (r__law_said CA) (aCons (mVar 7) aNil))) 4 [some (.rol (ns.map .int)), some (.box 0), some (.box 1), some (.box 2), none, none, none, none, none, none, none, none, none, none] [pD p1, TL ts, FL ts] = .nx (S14 (.rol (ns.map .int)) none none none none none none none none none) (bT p1 ts) := by
    have hb : Cb [pD p1, TL ts, FL ts] := by
      show ((pD p1).cl 3 && (D.cls 3 (ts.map tD) && (D.cls 3 (ts.map fD) && true))) = true
      rw [cl_p, cls_tD, cls_fD]; rfl
    refine (ev_box (i := 4) (d := SL ts) (b := [pD p1, TL ts, FL ts]) (ev_compB fD (fun t => D.str (S t)) (n := 2) (xs := ts) rfl rfl (by omega) fun t h => ?_)).trans rfl
    exact ⟨[some (.rol (ns.map .int)), some (.box 0), some (.box 1), some (.box 2), none, none, none, some (fD t), none, none, none, none, none, none], .val (.str (S t)), rfl, (ev_F (ev_cons (r := .val (fD t)) (b := [pD p1, TL ts, FL ts]) rfl ev_nil)).trans (said_ok CA hb ((ht2 t h).fw (by decide) (by decide)) (ab_or (ht t h))), rfl⟩
  have lr2 : (rng 0 (11 : Int).toNat).length = 11 := rng_len
  obtain ⟨ts', p', q5, q6, q7, qa, qb, qc, e5, ht', l5⟩ := tn_loop CA (x := .rol (ns.map .int)) (o8 := none) (o9 := none) (od := none) (rng 0 (11 : Int).toNat) ts p1 (0 + 6 * ((3 : Nat) : Int)) none none none none none none h2 (by rw [lr2]; decide) (by omega) (by rw [lr2]; omega) ht2
  rw [lr2] at l5
  have a5 : mFor (iRng1M (mC (.int 11))) (gN 5) (m_tn CA) (S14 (.rol (ns.map .int)) none none none none none none none none none) (bT p1 ts) = .nx (S14 (.rol (ns.map .int)) q5 q6 q7 none none qa qb qc none) (bT p' ts') := (ev_for (ev_rng (by decide))).trans e5
  obtain ⟨ρ6, a6, h6⟩ := atl_ok (CA := CA) (p := p') (ts := ts') hd (x := .rol (ns.map .int)) (by omega) ht' (ρ := S14 (.rol (ns.map .int)) q5 q6 q7 none none qa qb qc none) ⟨_, _, _, _, _, _, _, _, _, rfl⟩
  have a7 := tail_ok (bx := bT p' ts') hd (cb_T p' ts') h6
  have e : m__law_part_two CA [some (.rol (ns.map .int)), none, none, none, none, none, none, none, none, none, none, none, none, none] [] = .rt (.val (.bl true)) (bT p' ts') := by
    unfold m__law_part_two
    exact (ev_seq a1).trans ((ev_seq a2).trans ((ev_seq a3).trans ((ev_seq a4).trans ((ev_seq a5).trans ((ev_seq a6).trans a7)))))
  exact run_rtX (n := 14) (k := 1) (m := m__law_part_two CA) (ds := [.rol (ns.map .int)]) (bx := []) (d := .bl true) e (by simp) rfl rfl (fun j z => by cases z)
end Q0

set_option Elab.async false
set_option linter.all false
set_option maxRecDepth 100000
set_option maxHeartbeats 4000000
/-! Q0T: the law answers true. -/
namespace Q0
open PySem DL
theorem law_true : ∀ CA, DX.Dst dat CA → ∀ ns : List Int, ns.length ≤ 63 → r_law CA [.rol (ns.map D.int)] [] = .ok (.val (.bl true)) [] := fun CA hd ns hn => by
  refine run_rt (r := .val (.bl true)) (b := []) ?_
  show m_law CA [some (.rol (ns.map .int))] [] = _
  refine ev_ret ?_
  have e1 : mF (r__law_part_one CA) (aCons (mVar 0) aNil) [some (.rol (ns.map .int))] [] = .ok (.val (.bl true)) [] := (ev_F (ev_cons (r := .val (.rol (ns.map .int))) (b := []) rfl ev_nil)).trans (c_part_one CA ns hn)
  have e2 : mF (r__law_part_two CA) (aCons (mVar 0) aNil) [some (.rol (ns.map .int))] [] = .ok (.val (.bl true)) [] := (ev_F (ev_cons (r := .val (.rol (ns.map .int))) (b := []) rfl ev_nil)).trans (c_part_two CA hd ns hn)
  exact (ev_andVT e1).trans e2
end Q0

set_option Elab.async false
set_option linter.all false
set_option maxRecDepth 100000
set_option maxHeartbeats 0
/-! the top, run. -/
namespace Q0
open PySem PySem.Spec PyProof.Rows L2
abbrev R : PySem.W.OpenRow := PySem.W.OpenLaw.row PySem.Challenge.rw_speakanew_k02_filters_tell_three_truths
def names : List PySem.Str := (["_wall", "is_integer", "higher_low", "lower_high", "higher_high", "is_empty", "joined", "common", "outside", "has_number", "Ranges", "columns_in", "both", "truth_of", "Filter", "_law_pen", "_law_draw", "_law_ranges", "_law_leaf", "_law_set_of"] : List PySem.Str) ++ (["_law_numbered", "_law_grown", "_law_built", "_law_columns", "_law_values", "_law_word", "_law_looked_at", "_law_part_one", "_law_draw_b", "_law_ranges_b", "_law_leaf_b", "_law_condition", "_law_next", "_law_built_b", "_law_deep", "_law_many", "_law_due_said", "_law_said", "_law_alike", "_law_part_two"] : List PySem.Str)
theorem run (w : World) : HandSHeadRun.RunEq R (PySem.W.view R.prog [43]) (DX.hk dat) (DX.ob dat) 5000 names w := by
  intro os
  kernel_rfl
end Q0

set_option Elab.async false
set_option linter.all false
set_option maxRecDepth 100000
set_option maxHeartbeats 4000000
open PySem PySem.W PySem.Calls PyProof.Rows
theorem PySem.Challenge.cw_speakanew_k02_filters_tell_three_truths_holds : PySem.Challenge.rw_speakanew_k02_filters_tell_three_truths.Holds := by
  w_on; o_law
  refine HandSHeadRun.head_any (r := Q0.R) (q := view Q0.R.prog [43]) (H := DX.hk Q0.dat) (ob := DX.ob Q0.dat) (M := 5000) (loose := Q0.names) (d := HandSHeadRun.topDef Q0.R.prog 43) (kwd := []) (DX.ob_eq Q0.dat)
    (by kernel_rfl) (fun s => by kernel_rfl) Q0.run (by kernel_rfl) (by kernel_rfl) (by kernel_rfl) (by rfl) (by first | assumption | decide +kernel) (by decide +kernel) ⟨rfl, rfl, rfl, rfl, rfl, by decide +kernel⟩ ?hw ?hc
  case hw => w_witness2
  case hc =>
    refine DL.top_walk (l := PySem.Challenge.rw_speakanew_k02_filters_tell_three_truths) (n := 63) (k := 56) rfl (by decide) (by kernel_rfl) ⟨rfl, by decide, by decide⟩ ?F
    intro w mg f h ⟨K, KX, c⟩ G hm
    have hm2 : mg ("law" : PySem.Str) = some (.ref f) := by
      have e : (HandSHeadRun.topDef Q0.R.prog 43).name = ("law" : PySem.Str) := by kernel_rfl
      rw [← e]
      exact hm
    have ef : f = He.ga K "law" := DX.glo_fa KX G c (x := "law") (by simp [Q0.dat]) hm2
    subst ef
    obtain ⟨fd, FD⟩ := DX.law_fd c (List.mem_of_getElem? (i := Q0.dat.defs.length - 1) rfl)
    exact ⟨K, KX, DX.lawD_of (g := Q0.r_law) KX c (fun b0 t => Q0.F_law t) Q0.law_true⟩

