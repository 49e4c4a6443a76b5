import PyProof.Rows.All
import Wide.All
import OpenK.AllK
import Wide.FinOn
import HandS.ForMost
import HandS.Exc
import HandS.ExcInit
import HandS.TryOnly
import HandS.WordsExc
import HandS.Deep
import HandS.TupAny
import HandS.TupMul
import HandS.Flow
import HandS.Style
import HandS.Wide
import HandS.WideBits
import HandS.Conv
import HandS.IsInst
import HandS.More
import PyProof.StrOps2
import PyProof.ListStr
import PyProof.TupleOfStr
import HandS.Strs
import KE.DataCmp
import HandS.CallSlots
import HandS.Small
import HandS.ExcCtx
import KE.SortData
import HandS.TupLen
import HandS.Replace
import KE.DataMinMax
import PyProof.FactsAll.tuple_2
import HandS.Defaults
import KE.KStateDown
import HandS.Base
import HandS.Call
import HandS.Ends
import HandS.Words
import HandS.Head0
import HandS.Head1
import HandS.Head2
import HandS.HeadEnd
import HandS.HeadHook1
import HandS.HeadHook2
import HandS.HeadHook3
import HandS.HeadHook4
import HandS.ExcField
import HandS.ExcIs
import HandS.TryMany
import HandS.HotCalls
import HandS.Hot
import KE.DatumOrd
import HandS.Codes
import PySem.Challenge.RW_lightled_k36_alikes
set_option Elab.async false
set_option linter.all false
set_option maxRecDepth 100000
set_option autoImplicit false
/-! values as trees, the store of what may change, and how they lie in the layer's heap -/
namespace Dn
open PySem PySem.Spec L2

/-- a value: immutable things are trees; a list that nobody changes any more is a tree, too (nlst: one that was made just now, held by nobody); what may change stands in the store -/
inductive T where
  | non | bl (b : Bool) | int (i : Int) | str (x : Str) | tup (ts : List T) | lst (ts : List T) | nlst (ts : List T) | flst (ts : List T) | ktup (ts : List T) | ref (i : Nat) | dic (kvs : List (Key × T))

/-- a thing that may change -/
inductive MO where
  | lst (ts : List T) | dK (kvs : List (Key × T)) | dT (kvs : List (List Key × T)) | ins (c : Str) (fs : List (Str × T))
abbrev Sto := List MO
abbrev Sl := List (Option T)

/-- a table of the written part with text keys -/
def KDv (K : PySem.W.Frag) (w : World) (a : Addr) (vals : List (Key × V)) : Prop :=
  ∃ es n, KDict K w a es n ∧ ∀ z : Str, (∃ v u, valV vals (.inr z) = some v ∧ PySem.W.nsIn K a z = some (some u) ∧ RelV v u) ∨ (valV vals (.inr z) = none ∧ PySem.W.nsIn K a z = some none)
def KLst (K : PySem.W.Frag) (a : Addr) (xs : List V) : Prop :=
  ∃ (o : Obj) (its : Array Value) (n : Nat), K.lookup a = some o ∧ o.cls = .type "list" ∧ o.dict = none ∧ o.data = .seq its n ∧ its.size ≤ sizeLine ∧ Vals xs its.toList
def KTup (K : PySem.W.Frag) (a : Addr) (xs : List V) : Prop :=
  ∃ (o : Obj) (its : Array Value) (n : Nat), K.lookup a = some o ∧ o.cls = .type "tuple" ∧ o.data = .seq its n ∧ its.size ≤ sizeLine ∧ Vals xs its.toList

section
variable (K : PySem.W.Frag) (w : World) (H : Hp) (ρ av : List Addr)
mutual
inductive RepV : V → T → Prop
  | non : RepV .non .non
  | bl (b : Bool) : RepV (.bl b) (.bl b)
  | int (i : Int) : RepV (.int i) (.int i)
  | str (x : Str) : RepV (.str x) (.str x)
  | tup {a o vs ts} (h : H a = some (.frz o (.tup vs))) (hd : o.dict = none) (r : RepVs vs ts) : RepV (.ref a) (.tup ts)
  | tupK {a vs ts} (h : KTup K a vs) (r : RepVs vs ts) : RepV (.ref a) (.ktup ts)
  | lst {a vs ts} (h : H a = some (.lst vs)) (h1 : a ∉ ρ) (h2 : a ∉ av) (r : RepVs vs ts) : RepV (.ref a) (.lst ts)
  | flst {a vs ts} (h : (∃ o, H a = some (.frz o (.lst vs))) ∨ KLst K a vs) (r : RepVs vs ts) : RepV (.ref a) (.flst ts)
  | ref {a : Addr} {i : Nat} (h : ρ[i]? = some a) : RepV (.ref a) (.ref i)
  | dic {a kvs us} (h : Rd H a (.dK kvs)) (h1 : a ∉ ρ) (h2 : a ∉ av) (r : RepKs kvs us) : RepV (.ref a) (.dic us)
  | dicK {a kvs us} (h : KDv K w a kvs) (hx : ∀ p ∈ kvs, ∃ z, p.1 = Sum.inr z) (r : RepKs kvs us) : RepV (.ref a) (.dic us)
inductive RepVs : List V → List T → Prop
  | nil : RepVs [] []
  | cons {v t vs ts} (r : RepV v t) (rs : RepVs vs ts) : RepVs (v :: vs) (t :: ts)
inductive RepKs : List (Key × V) → List (Key × T) → Prop
  | nil : RepKs [] []
  | cons {k v t vs ts} (r : RepV v t) (rs : RepKs vs ts) : RepKs ((k, v) :: vs) ((k, t) :: ts)
end
end

def Imm : HO → Prop
  | .tup _ => True
  | .frz _ _ => True
  | _ => False

/-- from a heap and its store's addresses to later ones -/
structure Ext (H : Hp) (ρ : List Addr) (H' : Hp) (ρ' : List Addr) : Prop where
  pre : ∃ new, ρ' = ρ ++ new
  new : ∀ a ∈ ρ', a ∈ ρ ∨ H a = none
  keep : ∀ a o, a ∉ ρ → H a = some o → H' a = some o
  imm : ∀ a o, Imm o → H a = some o → H' a = some o
  dom : ∀ a, H' a = none → H a = none

theorem Ext.refl (H : Hp) (ρ : List Addr) : Ext H ρ H ρ := ⟨⟨[], by simp⟩, fun _ h => .inl h, fun _ _ _ h => h, fun _ _ _ h => h, fun _ h => h⟩
theorem Ext.trans {H H1 H2 : Hp} {ρ ρ1 ρ2 : List Addr} (a : Ext H ρ H1 ρ1) (b : Ext H1 ρ1 H2 ρ2) : Ext H ρ H2 ρ2 := by
  obtain ⟨n1, e1⟩ := a.pre
  obtain ⟨n2, e2⟩ := b.pre
  refine ⟨⟨n1 ++ n2, by rw [e2, e1, List.append_assoc]⟩, fun x hx => ?_, fun x o hx h => ?_, fun x o hi h => b.imm x o hi (a.imm x o hi h), fun x h => a.dom x (b.dom x h)⟩
  · rcases b.new x hx with h | h
    · exact a.new x h
    · exact .inr (a.dom x h)
  · refine b.keep x o (fun z => ?_) (a.keep x o hx h)
    rcases a.new x z with q | q
    · exact hx q
    · rw [q] at h; cases h

theorem Ext.rd_tup {H H' : Hp} {ρ ρ' : List Addr} (e : Ext H ρ H' ρ') {a : Addr} {vs : List V} (h : Rd H a (.tup vs)) : Rd H' a (.tup vs) := by
  rcases h with h | ⟨o, h⟩
  · exact .inl (e.imm a _ trivial h)
  · exact .inr ⟨o, e.imm a _ trivial h⟩
theorem Ext.rd {H H' : Hp} {ρ ρ' : List Addr} (e : Ext H ρ H' ρ') {a : Addr} {u : HO} (h : Rd H a u) (n : a ∉ ρ) : Rd H' a u := by
  rcases h with h | ⟨o, h⟩
  · exact .inl (e.keep a _ n h)
  · exact .inr ⟨o, e.imm a _ trivial h⟩
theorem Rd.there {H : Hp} {a : Addr} {u : HO} (h : Rd H a u) : H a ≠ none := by
  rcases h with h | ⟨o, h⟩ <;> (rw [h]; simp)
theorem Ext.notin {H H' : Hp} {ρ ρ' : List Addr} (e : Ext H ρ H' ρ') {a : Addr} (h : H a ≠ none) (n : a ∉ ρ) : a ∉ ρ' := fun z => by
  rcases e.new a z with q | q
  · exact n q
  · exact h q

section
variable {K : PySem.W.Frag} {w : World} {H H' : Hp} {ρ ρ' av av' : List Addr}
mutual
theorem RepV.ext (e : Ext H ρ H' ρ') : ∀ {v : V} {t : T}, RepV K w H ρ av v t → RepV K w H' ρ' av v t
  | _, _, .non => .non
  | _, _, .bl b => .bl b
  | _, _, .int b => .int b
  | _, _, .str b => .str b
  | _, _, .tup h hd r => .tup (e.imm _ _ trivial h) hd (RepVs.ext e r)
  | _, _, .tupK h r => .tupK h (RepVs.ext e r)
  | _, _, .lst h h1 h2 r => .lst (e.keep _ _ h1 h) (e.notin (by rw [h]; simp) h1) h2 (RepVs.ext e r)
  | _, _, .flst h r => .flst (h.imp (fun ⟨o, q⟩ => ⟨o, e.imm _ _ trivial q⟩) id) (RepVs.ext e r)
  | _, _, .ref h => .ref (by
      obtain ⟨n, q⟩ := e.pre
      rw [q, List.getElem?_append_left]
      · exact h
      · exact (List.getElem?_eq_some_iff.mp h).1)
  | _, _, .dic h h1 h2 r => .dic (e.rd h h1) (e.notin (Rd.there h) h1) h2 (RepKs.ext e r)
  | _, _, .dicK h hx r => .dicK h hx (RepKs.ext e r)
theorem RepVs.ext (e : Ext H ρ H' ρ') : ∀ {v : List V} {t : List T}, RepVs K w H ρ av v t → RepVs K w H' ρ' av v t
  | _, _, .nil => .nil
  | _, _, .cons r rs => .cons (RepV.ext e r) (RepVs.ext e rs)
theorem RepKs.ext (e : Ext H ρ H' ρ') : ∀ {v : List (Key × V)} {t : List (Key × T)}, RepKs K w H ρ av v t → RepKs K w H' ρ' av v t
  | _, _, .nil => .nil
  | _, _, .cons r rs => .cons (RepV.ext e r) (RepKs.ext e rs)
end
mutual
/-- fewer things to be avoided -/
theorem RepV.less (s : ∀ a ∈ av', a ∈ av) : ∀ {v : V} {t : T}, RepV K w H ρ av v t → RepV K w H ρ av' v t
  | _, _, .non => .non
  | _, _, .bl b => .bl b
  | _, _, .int b => .int b
  | _, _, .str b => .str b
  | _, _, .tup h hd r => .tup h hd (RepVs.less s r)
  | _, _, .tupK h r => .tupK h (RepVs.less s r)
  | _, _, .lst h h1 h2 r => .lst h h1 (fun z => h2 (s _ z)) (RepVs.less s r)
  | _, _, .flst h r => .flst h (RepVs.less s r)
  | _, _, .ref h => .ref h
  | _, _, .dic h h1 h2 r => .dic h h1 (fun z => h2 (s _ z)) (RepKs.less s r)
  | _, _, .dicK h hx r => .dicK h hx (RepKs.less s r)
theorem RepVs.less (s : ∀ a ∈ av', a ∈ av) : ∀ {v : List V} {t : List T}, RepVs K w H ρ av v t → RepVs K w H ρ av' v t
  | _, _, .nil => .nil
  | _, _, .cons r rs => .cons (RepV.less s r) (RepVs.less s rs)
theorem RepKs.less (s : ∀ a ∈ av', a ∈ av) : ∀ {v : List (Key × V)} {t : List (Key × T)}, RepKs K w H ρ av v t → RepKs K w H ρ av' v t
  | _, _, .nil => .nil
  | _, _, .cons r rs => .cons (RepV.less s r) (RepKs.less s rs)
end
mutual
/-- an address that is not there as yet may be avoided -/
theorem RepV.more {p : Addr} (hp : H p = none) : ∀ {v : V} {t : T}, RepV K w H ρ av v t → RepV K w H ρ (p :: av) v t
  | _, _, .non => .non
  | _, _, .bl b => .bl b
  | _, _, .int b => .int b
  | _, _, .str b => .str b
  | _, _, .tup h hd r => .tup h hd (RepVs.more hp r)
  | _, _, .tupK h r => .tupK h (RepVs.more hp r)
  | _, _, .lst h h1 h2 r => .lst h h1 (fun z => by
      rcases List.mem_cons.mp z with z | z
      · subst z; rw [hp] at h; cases h
      · exact h2 z) (RepVs.more hp r)
  | _, _, .flst h r => .flst h (RepVs.more hp r)
  | _, _, .ref h => .ref h
  | _, _, .dic h h1 h2 r => .dic h h1 (fun z => by
      rcases List.mem_cons.mp z with z | z
      · subst z; exact Rd.there h hp
      · exact h2 z) (RepKs.more hp r)
  | _, _, .dicK h hx r => .dicK h hx (RepKs.more hp r)
theorem RepVs.more {p : Addr} (hp : H p = none) : ∀ {v : List V} {t : List T}, RepVs K w H ρ av v t → RepVs K w H ρ (p :: av) v t
  | _, _, .nil => .nil
  | _, _, .cons r rs => .cons (RepV.more hp r) (RepVs.more hp rs)
theorem RepKs.more {p : Addr} (hp : H p = none) : ∀ {v : List (Key × V)} {t : List (Key × T)}, RepKs K w H ρ av v t → RepKs K w H ρ (p :: av) v t
  | _, _, .nil => .nil
  | _, _, .cons r rs => .cons (RepV.more hp r) (RepKs.more hp rs)
end
end
end Dn

namespace Dn
open PySem PySem.Spec L2

/-! ### results, stores -/
abbrev Flds := List (Str × T)
/-- the exception that an except suite handles: its slot, address, dict, class by name, fields -/
structure Pin where
  i : Nat
  a : Addr
  d : Addr
  c : Str
  vs : List (Str × V)
  fs : Flds
structure DX extends Cx where
  pin : Option Pin
instance : Coe DX Cx := ⟨DX.toCx⟩
inductive RE where
  | ok (t : T) (S : Sto) | exc (c : Str) (fs : Flds) (S : Sto) | bad
inductive RS where
  | nx (sl : Sl) (S : Sto) | rt (t : T) (S : Sto) | bk (sl : Sl) (S : Sto) | ct (sl : Sl) (S : Sto) | exc (c : Str) (fs : Flds) (sl : Sl) (S : Sto) | bad
abbrev DE := Sl → Sto → RE
abbrev DS := Sl → Sto → RS
abbrev DF := List T → Sto → RE
def fz : T → T
  | .nlst ts => .lst ts
  | t => t
def RE.bind (r : RE) (f : T → Sto → RE) : RE := match r with
  | .ok t S => f t S
  | .exc c fs S => .exc c fs S
  | .bad => .bad

section
variable (K : PySem.W.Frag) (w : World) (H : Hp) (ρ av : List Addr)
def RepKd {κ : Type} (vs : List (κ × V)) (ts : List (κ × T)) : Prop := Paired (fun (p : κ × V) (q : κ × T) => p.1 = q.1 ∧ RepV K w H ρ av p.2 q.2) vs ts
def RepO (a : Addr) : MO → Prop
  | .lst ts => ∃ vs, H a = some (.lst vs) ∧ RepVs K w H ρ av vs ts
  | .dK kvs => ∃ vs, H a = some (.dK vs) ∧ RepKd K w H ρ av vs kvs
  | .dT kvs => ∃ vs, H a = some (.dT vs) ∧ RepKd K w H ρ av vs kvs
  | .ins c fs => False
structure RepS (S : Sto) : Prop where
  len : ρ.length = S.length
  nd : ρ.Nodup
  obj : ∀ (i : Nat) (a : Addr) (o : MO), ρ[i]? = some a → S[i]? = some o → RepO K w H ρ av a o
  out : ∀ a ∈ av, H a ≠ none ∧ a ∉ ρ
structure RepE (pn : Option Pin) (H : Hp) (ρ av : List Addr) (σ : St) (sl : Sl) : Prop where
  len : σ.length = sl.length
  at_ : ∀ (i : Nat) (t : T), sl[i]? = some (some t) → ∃ v, σ[i]? = some (some v) ∧ RepV K w H ρ av v t
  pin : ∀ p, pn = some p → H p.d = some (.xd p.vs) ∧ p.d ∉ ρ ∧ p.d ∉ av ∧ RepKd K w H ρ av p.vs p.fs ∧ (sl[p.i]? = some none → σ[p.i]? = some (some (.ref p.a)))
/-- a value that was told just now, the heap ahead being H0 -/
def RepR (H0 : Hp) (v : V) : T → Prop
  | .nlst ts => ∃ a vs, v = .ref a ∧ H0 a = none ∧ H a = some (.lst vs) ∧ a ∉ ρ ∧ a ∉ av ∧ RepVs K w H ρ (a :: av) vs ts
  | t => RepV K w H ρ av v t
/-- an exception: its class by name, its fields -/
def RepX (mg : Str → Option Value) (cls : Value) (dd : Option Addr) (c : Str) (fs : Flds) : Prop :=
  ∃ C, mg c = some (.ref C) ∧ cls = .ref C ∧ ∃ d vs, dd = some d ∧ H d = some (.xd vs) ∧ d ∉ ρ ∧ d ∉ av ∧ Paired (fun (p : Str × V) (q : Str × T) => p.1 = q.1 ∧ RepV K w H ρ av p.2 q.2) vs fs
end

section
variable {K : PySem.W.Frag} {w : World} {H H' H0 : Hp} {ρ ρ' av av' : List Addr}
theorem Paired.mono {α β : Type} {F G : α → β → Prop} (h : ∀ a b, F a b → G a b) : ∀ {xs : List α} {ys : List β}, Paired F xs ys → Paired G xs ys
  | _, _, .nil => .nil
  | _, _, .cons r rs => .cons (h _ _ r) (Paired.mono h rs)
theorem RepKd.ext {κ : Type} {vs : List (κ × V)} {ts : List (κ × T)} (e : Ext H ρ H' ρ') (r : RepKd K w H ρ av vs ts) : RepKd K w H' ρ' av vs ts :=
  Paired.mono (fun _ _ h => ⟨h.1, h.2.ext e⟩) r
theorem RepE.ext {pn : Option Pin} {σ : St} {sl : Sl} (e : Ext H ρ H' ρ') (r : RepE K w pn H ρ av σ sl) : RepE K w pn H' ρ' av σ sl :=
  ⟨r.len, fun i t h => let ⟨v, h1, h2⟩ := r.at_ i t h; ⟨v, h1, h2.ext e⟩, fun p hp => let ⟨h1, h2, h3, h4, h5⟩ := r.pin p hp; ⟨e.keep _ _ h2 h1, e.notin (by rw [h1]; simp) h2, h3, h4.ext e, h5⟩⟩
theorem RepE.to {pn : Option Pin} {σ : St} {sl : Sl} (he : RepE K w pn H ρ av σ sl) (f : ∀ {v : V} {t : T}, RepV K w H ρ av v t → RepV K w H' ρ' av' v t) (k : ∀ d vs, H d = some (.xd vs) → d ∉ ρ → d ∉ av → H' d = some (.xd vs) ∧ d ∉ ρ' ∧ d ∉ av') : RepE K w pn H' ρ' av' σ sl :=
  ⟨he.len, fun i t h => let ⟨v, h1, h2⟩ := he.at_ i t h; ⟨v, h1, f h2⟩, fun p hp => let ⟨h1, h2, h3, h4, h5⟩ := he.pin p hp; let ⟨k1, k2, k3⟩ := k _ _ h1 h2 h3; ⟨k1, k2, k3, Paired.mono (fun _ _ h => ⟨h.1, f h.2⟩) h4, h5⟩⟩
theorem RepVs.length {vs : List V} {ts : List T} : RepVs K w H ρ av vs ts → vs.length = ts.length
  | .nil => rfl
  | .cons _ rs => by simp [RepVs.length rs]
theorem RepVs.append : ∀ {vs vs' : List V} {ts ts' : List T}, RepVs K w H ρ av vs ts → RepVs K w H ρ av vs' ts' → RepVs K w H ρ av (vs ++ vs') (ts ++ ts')
  | _, _, _, _, .nil, s => s
  | _, _, _, _, .cons r rs, s => .cons r (RepVs.append rs s)
theorem RepVs.get : ∀ {vs : List V} {ts : List T} {i : Nat} {t : T}, RepVs K w H ρ av vs ts → ts[i]? = some t → ∃ v, vs[i]? = some v ∧ RepV K w H ρ av v t
  | _, _, _, _, .nil, h => by simp at h
  | _, _, 0, _, .cons r rs, h => by
    simp at h; subst h; exact ⟨_, rfl, r⟩
  | _, _, i + 1, t, .cons r rs, h => by
    obtain ⟨v, h1, h2⟩ := RepVs.get (i := i) (t := t) rs (by simpa using h)
    exact ⟨v, by simpa using h1, h2⟩
theorem RepVs.getV : ∀ {vs : List V} {ts : List T} {i : Nat} {v : V}, RepVs K w H ρ av vs ts → vs[i]? = some v → ∃ t, ts[i]? = some t ∧ RepV K w H ρ av v t
  | _, _, _, _, .nil, h => by simp at h
  | _, _, 0, _, .cons r rs, h => by
    simp at h; subst h; exact ⟨_, rfl, r⟩
  | _, _, i + 1, t, .cons r rs, h => by
    obtain ⟨v, h1, h2⟩ := RepVs.getV (i := i) (v := t) rs (by simpa using h)
    exact ⟨v, by simpa using h1, h2⟩
theorem RepVs.set {v : V} {t : T} (r : RepV K w H ρ av v t) : ∀ {vs : List V} {ts : List T} (i : Nat), RepVs K w H ρ av vs ts → RepVs K w H ρ av (vs.set i v) (ts.set i t)
  | _, _, _, .nil => .nil
  | _, _, 0, .cons _ rs => .cons r rs
  | _, _, i + 1, .cons q rs => .cons q (RepVs.set r i rs)
theorem RepVs.take : ∀ {vs : List V} {ts : List T} (n : Nat), RepVs K w H ρ av vs ts → RepVs K w H ρ av (vs.take n) (ts.take n)
  | _, _, 0, _ => .nil
  | _, _, _ + 1, .nil => .nil
  | _, _, n + 1, .cons r rs => .cons r (RepVs.take n rs)
theorem RepVs.drop : ∀ {vs : List V} {ts : List T} (n : Nat), RepVs K w H ρ av vs ts → RepVs K w H ρ av (vs.drop n) (ts.drop n)
  | _, _, 0, r => r
  | _, _, _ + 1, .nil => .nil
  | _, _, n + 1, .cons _ rs => RepVs.drop n rs
theorem RepVs.eraseIdx : ∀ {vs : List V} {ts : List T} (n : Nat), RepVs K w H ρ av vs ts → RepVs K w H ρ av (vs.eraseIdx n) (ts.eraseIdx n)
  | _, _, _, .nil => .nil
  | _, _, 0, .cons _ rs => rs
  | _, _, n + 1, .cons r rs => .cons r (RepVs.eraseIdx n rs)
theorem RepVs.reverse {vs : List V} {ts : List T} (r : RepVs K w H ρ av vs ts) : RepVs K w H ρ av vs.reverse ts.reverse := by
  have go : ∀ {vs : List V} {ts : List T}, RepVs K w H ρ av vs ts → ∀ {us : List V} {qs : List T}, RepVs K w H ρ av us qs → RepVs K w H ρ av (vs.reverseAux us) (ts.reverseAux qs) := by
    intro vs
    induction vs with
    | nil => intro ts h us qs s; cases h; exact s
    | cons v vs ih => intro ts h us qs s; cases h with | cons r rs => exact ih rs (.cons r s)
  exact go r .nil
theorem RepR.toV {v : V} {t : T} (r : RepR K w H ρ av H0 v t) : RepV K w H ρ av v (fz t) := by
  cases t with
  | nlst ts =>
    obtain ⟨a, vs, rfl, _, h1, h2, h3, h4⟩ := r
    exact .lst h1 h2 h3 (h4.less fun _ z => List.mem_cons_of_mem _ z)
  | _ => exact r
theorem RepV.noN {v : V} {ts : List T} : ¬ RepV K w H ρ av v (.nlst ts) := fun h => nomatch h
theorem RepV.fz {v : V} {t : T} (r : RepV K w H ρ av v t) : Dn.fz t = t := by cases r <;> rfl
theorem RepV.toR {v : V} {t : T} (r : RepV K w H ρ av v t) : RepR K w H ρ av H0 v t := by
  cases t with
  | nlst ts => exact absurd r RepV.noN
  | _ => exact r
/-- fresh to a later heap is fresh to an earlier one -/
theorem RepR.back {H1 : Hp} {ρ1 ρ2 : List Addr} {v : V} {t : T} (e : Ext H0 ρ1 H1 ρ2) (r : RepR K w H ρ av H1 v t) : RepR K w H ρ av H0 v t := by
  cases t with
  | nlst ts =>
    obtain ⟨a, vs, rfl, h0, h1⟩ := r
    exact ⟨a, vs, rfl, e.dom a h0, h1⟩
  | _ => exact r
theorem RepS.of_ref {S : Sto} (s : RepS K w H ρ av S) {i : Nat} {a : Addr} (h : ρ[i]? = some a) : ∃ o, S[i]? = some o ∧ RepO K w H ρ av a o := by
  have hi : i < S.length := by rw [← s.len]; exact (List.getElem?_eq_some_iff.mp h).1
  exact ⟨S[i], List.getElem?_eq_getElem hi, s.obj i a _ h (List.getElem?_eq_getElem hi)⟩
theorem RepO.there {a : Addr} {o : MO} (h : RepO K w H ρ av a o) : ∃ u, H a = some u ∧ ¬ Imm u := by
  cases o with
  | lst ts => obtain ⟨vs, h, _⟩ := h; exact ⟨_, h, fun z => z⟩
  | dK ts => obtain ⟨vs, h, _⟩ := h; exact ⟨_, h, fun z => z⟩
  | dT ts => obtain ⟨vs, h, _⟩ := h; exact ⟨_, h, fun z => z⟩
  | ins c fs => exact h.elim
theorem RepS.there {S : Sto} (s : RepS K w H ρ av S) {a : Addr} (h : a ∈ ρ) : ∃ u, H a = some u ∧ ¬ Imm u := by
  obtain ⟨i, hi⟩ := List.mem_iff_getElem?.mp h
  obtain ⟨o, _, r⟩ := s.of_ref hi
  exact r.there
/-- a new object that is no part of the store -/
theorem Ext.laid {S : Sto} (s : RepS K w H ρ av S) {p : Addr} (hp : H p = none) (o : HO) : Ext H ρ (upd H p o) ρ := by
  have ne : ∀ a u, H a = some u → a ≠ p := fun a u h z => by rw [z, hp] at h; cases h
  exact ⟨⟨[], by simp⟩, fun _ h => .inl h, fun a u _ h => by rw [upd_ne (ne a u h)]; exact h, fun a u _ h => by rw [upd_ne (ne a u h)]; exact h, fun a h => by
    by_cases e : a = p
    · rw [e]; exact hp
    · rw [upd_ne e] at h; exact h⟩
theorem RepO.ext {a : Addr} {o : MO} (e : Ext H ρ H' ρ') (ha : ∀ u, H a = some u → ¬ Imm u → H' a = some u) (h : RepO K w H ρ av a o) : RepO K w H' ρ' av a o := by
  cases o with
  | lst ts => obtain ⟨vs, h1, h2⟩ := h; exact ⟨vs, ha _ h1 (fun z => z), h2.ext e⟩
  | dK ts => obtain ⟨vs, h1, h2⟩ := h; exact ⟨vs, ha _ h1 (fun z => z), h2.ext e⟩
  | dT ts => obtain ⟨vs, h1, h2⟩ := h; exact ⟨vs, ha _ h1 (fun z => z), h2.ext e⟩
  | ins c fs => exact h
theorem RepS.laid {S : Sto} (s : RepS K w H ρ av S) {p : Addr} (hp : H p = none) (o : HO) : RepS K w (upd H p o) ρ av S := by
  have e := Ext.laid s hp o
  have ne : ∀ a u, H a = some u → a ≠ p := fun a u h z => by rw [z, hp] at h; cases h
  refine ⟨s.len, s.nd, fun i a ob h1 h2 => (s.obj i a ob h1 h2).ext e fun u h _ => by rw [upd_ne (ne a u h)]; exact h, fun a ha => ?_⟩
  obtain ⟨h1, h2⟩ := s.out a ha
  exact ⟨fun z => h1 (e.dom a z), h2⟩
/-- a new object becomes part of the store -/
theorem Ext.grow {S : Sto} (s : RepS K w H ρ av S) {p : Addr} (h0 : H0 p = none) (e : Ext H0 ρ H ρ) : Ext H0 ρ H (ρ ++ [p]) :=
  ⟨⟨[p], rfl⟩, fun a h => by
    rcases List.mem_append.mp h with h | h
    · exact .inl h
    · rw [List.mem_singleton.mp h]; exact .inr h0, e.keep, e.imm, e.dom⟩
/-- an object of the store is written -/
theorem Ext.write {S : Sto} (s : RepS K w H ρ av S) {i : Nat} {a : Addr} (h : ρ[i]? = some a) (o : HO) : Ext H ρ (upd H a o) ρ := by
  have hm : a ∈ ρ := List.mem_of_getElem? h
  obtain ⟨u, hu, ni⟩ := s.there hm
  refine ⟨⟨[], by simp⟩, fun _ h => .inl h, fun b v hb hv => ?_, fun b v hi hv => ?_, fun b hb => ?_⟩
  · rw [upd_ne (fun z => hb (by rw [z]; exact hm))]; exact hv
  · rw [upd_ne (fun z => by rw [z, hu] at hv; cases hv; exact ni hi)]; exact hv
  · by_cases z : b = a
    · rw [z, upd_same] at hb; cases hb
    · rw [upd_ne z] at hb; exact hb
theorem RepS.write {S : Sto} (s : RepS K w H ρ av S) {i : Nat} {a : Addr} (h : ρ[i]? = some a) {u : HO} {o : MO} (r : RepO K w (upd H a u) ρ av a o) : RepS K w (upd H a u) ρ av (S.set i o) := by
  have e := Ext.write s h u
  refine ⟨by rw [List.length_set]; exact s.len, s.nd, fun j b ob h1 h2 => ?_, fun b hb => ?_⟩
  · by_cases hj : j = i
    · subst hj
      rw [h] at h1; cases h1
      have hl : j < S.length := by rw [← s.len]; exact (List.getElem?_eq_some_iff.mp h).1
      rw [List.getElem?_set_self hl] at h2
      cases h2
      exact r
    · rw [List.getElem?_set_ne (Ne.symm hj)] at h2
      refine (s.obj j b ob h1 h2).ext e fun v hv _ => ?_
      rw [upd_ne (fun z => hj ?_)]
      · exact hv
      · subst z
        obtain ⟨l1, e1⟩ := List.getElem?_eq_some_iff.mp h1
        obtain ⟨l2, e2⟩ := List.getElem?_eq_some_iff.mp h
        exact (List.getElem_inj s.nd).mp (e1.trans e2.symm)
  · obtain ⟨h1, h2⟩ := s.out b hb
    exact ⟨fun z => h1 (e.dom b z), h2⟩
end

/-- what is to be avoided besides: a list made just now -/
def avN (v : V) (t : T) (av : List Addr) : List Addr := match t with
  | .nlst _ => (match v with
    | .ref a => a :: av
    | _ => av)
  | _ => av
section
variable {K : PySem.W.Frag} {w : World} {H H' H0 : Hp} {ρ ρ' av av' : List Addr}
theorem RepO.less (s : ∀ a ∈ av', a ∈ av) {a : Addr} {o : MO} (h : RepO K w H ρ av a o) : RepO K w H ρ av' a o := by
  cases o with
  | lst ts => obtain ⟨vs, h1, h2⟩ := h; exact ⟨vs, h1, h2.less s⟩
  | dK ts => obtain ⟨vs, h1, h2⟩ := h; exact ⟨vs, h1, Paired.mono (fun _ _ h => ⟨h.1, h.2.less s⟩) h2⟩
  | dT ts => obtain ⟨vs, h1, h2⟩ := h; exact ⟨vs, h1, Paired.mono (fun _ _ h => ⟨h.1, h.2.less s⟩) h2⟩
  | ins c fs => exact h
theorem RepO.more {p : Addr} (hp : H p = none) {a : Addr} {o : MO} (h : RepO K w H ρ av a o) : RepO K w H ρ (p :: av) a o := by
  cases o with
  | lst ts => obtain ⟨vs, h1, h2⟩ := h; exact ⟨vs, h1, h2.more hp⟩
  | dK ts => obtain ⟨vs, h1, h2⟩ := h; exact ⟨vs, h1, Paired.mono (fun _ _ h => ⟨h.1, h.2.more hp⟩) h2⟩
  | dT ts => obtain ⟨vs, h1, h2⟩ := h; exact ⟨vs, h1, Paired.mono (fun _ _ h => ⟨h.1, h.2.more hp⟩) h2⟩
  | ins c fs => exact h
theorem RepS.less {S : Sto} (s : ∀ a ∈ av', a ∈ av) (h : RepS K w H ρ av S) : RepS K w H ρ av' S := ⟨h.len, h.nd, fun i a o h1 h2 => (h.obj i a o h1 h2).less s, fun a ha => h.out a (s a ha)⟩
theorem avN_sub {v : V} {t : T} : ∀ a ∈ av, a ∈ avN v t av := fun a h => by
  unfold avN
  split
  · split
    · exact List.mem_cons_of_mem _ h
    · exact h
  · exact h
theorem RepS.ofN {S : Sto} {v : V} {t : T} (h : RepS K w H ρ (avN v t av) S) : RepS K w H ρ av S := h.less avN_sub
theorem RepV.avN {v : V} {t : T} (r : RepV K w H ρ av v t) : Dn.avN v t av = av := by cases r <;> rfl
theorem RepS.laidN {S : Sto} (s : RepS K w H ρ av S) {p : Addr} (hp : H p = none) (o : HO) : RepS K w (upd H p o) ρ (p :: av) S := by
  have e := Ext.laid s hp o
  have ne : ∀ a u, H a = some u → a ≠ p := fun a u h z => by rw [z, hp] at h; cases h
  refine ⟨s.len, s.nd, fun i a ob h1 h2 => ((s.obj i a ob h1 h2).more hp).ext e fun u h _ => by rw [upd_ne (ne a u h)]; exact h, fun a ha => ?_⟩
  rcases List.mem_cons.mp ha with rfl | ha
  · exact ⟨by rw [upd_same]; simp, fun z => by obtain ⟨u, hu, _⟩ := s.there z; rw [hp] at hu; cases hu⟩
  · obtain ⟨h1, h2⟩ := s.out a ha
    exact ⟨fun z => h1 (e.dom a z), h2⟩
end

/-! ### the readings of results -/
section
variable (X : DX) (W : WX)
/-- what is asked of a result -/
def GoodE (σ : St) (H : Hp) (ρ av : List Addr) (Q : VK) : RE → Prop
  | .ok t S' => ∀ v H' ρ', Ext H ρ H' ρ' → RepS X.K X.w H' ρ' (avN v t av) S' → RepR X.K X.w H' ρ' av H v t → Q v H'
  | .exc c fs S' => ∀ cls dd H' ρ', Ext H ρ H' ρ' → RepS X.K X.w H' ρ' av S' → RepX X.K X.w H' ρ' av X.mg cls dd c fs → W cls dd σ H'
  | .bad => False
def GoodS (H : Hp) (ρ av : List Addr) (n : Nat) (D : Ends) : RS → Prop
  | .nx sl S' => ∀ σ' H' ρ', Ext H ρ H' ρ' → RepS X.K X.w H' ρ' av S' → RepE X.K X.w X.pin H' ρ' av σ' sl → σ'.length = n → D.nx σ' H'
  | .bk sl S' => ∀ σ' H' ρ', Ext H ρ H' ρ' → RepS X.K X.w H' ρ' av S' → RepE X.K X.w X.pin H' ρ' av σ' sl → σ'.length = n → D.bk σ' H'
  | .ct sl S' => ∀ σ' H' ρ', Ext H ρ H' ρ' → RepS X.K X.w H' ρ' av S' → RepE X.K X.w X.pin H' ρ' av σ' sl → σ'.length = n → D.ct σ' H'
  | .rt t S' => ∀ v H' ρ', Ext H ρ H' ρ' → RepS X.K X.w H' ρ' (avN v t av) S' → RepR X.K X.w H' ρ' av H v t → D.rt v H'
  | .exc c fs sl S' => ∀ cls dd σ' H' ρ', Ext H ρ H' ρ' → RepS X.K X.w H' ρ' av S' → RepE X.K X.w X.pin H' ρ' av σ' sl → σ'.length = n → RepX X.K X.w H' ρ' av X.mg cls dd c fs → W cls dd σ' H'
  | .bad => False
def liftE (d : DE) : TE := fun σ H Q => ∃ ρ av sl S, RepS X.K X.w H ρ av S ∧ RepE X.K X.w X.pin H ρ av σ sl ∧ GoodE X W σ H ρ av Q (d sl S)
def liftS (d : DS) : TS := fun D σ H => ∃ ρ av sl S, RepS X.K X.w H ρ av S ∧ RepE X.K X.w X.pin H ρ av σ sl ∧ GoodS X W H ρ av σ.length D (d sl S)
/-- arguments: a list of values, all frozen -/
inductive RA where
  | ok (ts : List T) (S : Sto) | exc (c : Str) (fs : Flds) (S : Sto) | bad
def GoodA (σ : St) (H : Hp) (ρ av : List Addr) (Q : List V → Hp → Prop) : RA → Prop
  | .ok ts S' => ∀ vs H' ρ', Ext H ρ H' ρ' → RepS X.K X.w H' ρ' av S' → RepVs X.K X.w H' ρ' av vs ts → Q vs H'
  | .exc c fs S' => ∀ cls dd H' ρ', Ext H ρ H' ρ' → RepS X.K X.w H' ρ' av S' → RepX X.K X.w H' ρ' av X.mg cls dd c fs → W cls dd σ H'
  | .bad => False
abbrev DA := Sl → Sto → RA
def liftA (d : DA) : TA := fun σ H Q => ∃ ρ av sl S, RepS X.K X.w H ρ av S ∧ RepE X.K X.w X.pin H ρ av σ sl ∧ GoodA X W σ H ρ av Q (d sl S)
/-- tests -/
inductive RB where
  | ok (b : Bool) (S : Sto) | exc (c : Str) (fs : Flds) (S : Sto) | bad
def GoodB (σ : St) (H : Hp) (ρ av : List Addr) (Q : Bool → Hp → Prop) : RB → Prop
  | .ok b S' => ∀ H' ρ', Ext H ρ H' ρ' → RepS X.K X.w H' ρ' av S' → Q b H'
  | .exc c fs S' => ∀ cls dd H' ρ', Ext H ρ H' ρ' → RepS X.K X.w H' ρ' av S' → RepX X.K X.w H' ρ' av X.mg cls dd c fs → W cls dd σ H'
  | .bad => False
abbrev DB := Sl → Sto → RB
def liftB (d : DB) : TT := fun σ H Q => ∃ ρ av sl S, RepS X.K X.w H ρ av S ∧ RepE X.K X.w X.pin H ρ av σ sl ∧ GoodB X W σ H ρ av Q (d sl S)
end
abbrev LE (X : DX) (W : WX) (e : Expr) (d : DE) : Prop := PE X e (liftE X W d)
abbrev LS (X : DX) (W : WX) (st : Stmt) (d : DS) : Prop := PS X st (liftS X W d)
abbrev LSs (X : DX) (W : WX) (sts : List Stmt) (d : DS) : Prop := PSs X sts (liftS X W d)
abbrev LA (X : DX) (W : WX) (es : List Expr) (d : DA) : Prop := PA X es (liftA X W d)
abbrev LT (X : DX) (W : WX) (e : Expr) (d : DB) : Prop := PT X e (liftB X W d)

theorem _root_.L2.PE.imp {X : Cx} {e : Expr} {t t' : TE} (h : PE X e t) (f : ∀ σ H Q, t' σ H Q → t σ H Q) : PE X e t' := ⟨fun pins s σ H Q I q => h.run pins s σ H Q I (f σ H Q q)⟩
theorem _root_.L2.PT.imp {X : Cx} {e : Expr} {t t' : TT} (h : PT X e t) (f : ∀ σ H Q, t' σ H Q → t σ H Q) : PT X e t' := ⟨fun pins s σ H Q I q => h.run pins s σ H Q I (f σ H Q q)⟩
theorem _root_.L2.PW.imp {X : Cx} {e : Expr} {t t' : TT} (h : PW X e t) (f : ∀ σ H Q, t' σ H Q → t σ H Q) : PW X e t' := ⟨fun wh pins s σ H Q I q => h.run wh pins s σ H Q I (f σ H Q q)⟩
theorem _root_.L2.PA.imp {X : Cx} {e : List Expr} {t t' : TA} (h : PA X e t) (f : ∀ σ H Q, t' σ H Q → t σ H Q) : PA X e t' := ⟨fun pos pins s σ H Q I q => h.run pos pins s σ H Q I (f σ H Q q)⟩
theorem _root_.L2.PS.imp {X : Cx} {e : Stmt} {t t' : TS} (h : PS X e t) (f : ∀ D σ H, t' D σ H → t D σ H) : PS X e t' := ⟨fun pins s σ H D I q => h.run pins s σ H D I (f D σ H q)⟩
theorem _root_.L2.PSs.imp {X : Cx} {e : List Stmt} {t t' : TS} (h : PSs X e t) (f : ∀ D σ H, t' D σ H → t D σ H) : PSs X e t' := ⟨fun pins s σ H D I q => h.run pins s σ H D I (f D σ H q)⟩

section
variable {X : DX} {W : WX} {σ : St} {H H1 : Hp} {ρ ρ1 av : List Addr} {sl : Sl} {S S1 : Sto}
theorem GoodE.mono {Q Q' : VK} {r : RE} (h : ∀ v H', Q v H' → Q' v H') (g : GoodE X W σ H ρ av Q r) : GoodE X W σ H ρ av Q' r := by
  cases r with
  | ok t S' => exact fun v H' ρ' e s r => h _ _ (g v H' ρ' e s r)
  | exc c fs S' => exact g
  | bad => exact g
/-- one part ahead: the rest from there -/
theorem GoodE.step {Q : VK} {r : RE} {f : T → Sto → RE} {Q1 : VK} (g : GoodE X W σ H ρ av Q (r.bind f))
    (h : ∀ t S1, r = .ok t S1 → ∀ v H1 ρ1, Ext H ρ H1 ρ1 → RepS X.K X.w H1 ρ1 av S1 → RepR X.K X.w H1 ρ1 av H v t → GoodE X W σ H1 ρ1 av Q (f t S1) → Q1 v H1) : GoodE X W σ H ρ av Q1 r := by
  cases r with
  | ok t S1 =>
    intro v H1 ρ1 e s rr
    refine h t S1 rfl v H1 ρ1 e s.ofN rr ?_
    have g' : GoodE X W σ H ρ av Q (f t S1) := g
    revert g'
    cases f t S1 with
    | ok t2 S2 => exact fun g' v2 H2 ρ2 e2 s2 r2 => g' v2 H2 ρ2 (e.trans e2) s2 (r2.back e)
    | exc c fs S2 => exact fun g' cls dd H2 ρ2 e2 s2 r2 => g' cls dd H2 ρ2 (e.trans e2) s2 r2
    | bad => exact fun g' => g'
  | exc c fs S1 => exact g
  | bad => exact g.elim
end
end Dn

/-! text * int, tuple * 1 -/
namespace Dn
open PySem PySem.Spec PyProof.Rows L2
def repS (z : Str) (n : Nat) : Str := ⟨(List.replicate n z.cps.toList).flatten.toArray⟩
theorem repS_fold (z : Str) (n : Nat) : (⟨(List.replicate n z.cps).foldl (· ++ ·) #[]⟩ : Str) = repS z n := by
  have go : ∀ (n : Nat) (acc : Array Nat), ((List.replicate n z.cps).foldl (· ++ ·) acc).toList = acc.toList ++ (List.replicate n z.cps.toList).flatten := by
    intro n
    induction n with
    | zero => intro acc; simp
    | succ n ih => intro acc; rw [List.replicate_succ, List.foldl_cons, ih, List.replicate_succ, List.flatten_cons]; simp
  unfold repS
  congr 1
  apply Array.ext'
  rw [go]
  simp
theorem repS_len (z : Str) (n : Nat) : (repS z n).length = z.length * n := by
  show ((List.replicate n z.cps.toList).flatten.toArray).size = _
  rw [List.size_toArray, List.length_flatten, List.map_replicate, List.sum_replicate_nat]
  show n * z.cps.toList.length = z.cps.size * n
  rw [Array.length_toList, Nat.mul_comm]
def rRepS : R2 := fun x y H Q => ∃ z k, x = .str z ∧ y = .int k ∧ -(2 ^ 63) ≤ k ∧ k < 2 ^ 63 ∧ z.length * k.toNat ≤ 16777216 ∧ Q (.str (repS z k.toNat)) H
theorem op_repS {X : Cx} : OpR X (binaryOp .Mult) rRepS := by
  intro pins s σ H x y v u Q I rx ry ⟨z, k, ex, ey, h1, h2, h3, q⟩
  subst ex ey
  obtain ⟨t, rfl⟩ := rx
  obtain ⟨t2, rfl⟩ := ry
  have hz := PySem.sizeLine_eq
  have hsz : z.length * k.toNat ≤ sizeLine := by omega
  refine P.mul_str (by rw [decide_eq_false (by omega), decide_eq_false (by omega)]; rfl) (fun k1 k2 => ?_) (fun k1 k2 => ?_) ?_
  · have : (z.length : Int) ≤ (2 ^ 63 - 1) / k := by
      rw [Int.le_ediv_iff_mul_le (by omega)]
      have e : ((z.length * k.toNat : Nat) : Int) = (z.length : Int) * k := by rw [Int.natCast_mul, Int.toNat_of_nonneg (by omega)]
      rw [← e]; omega
    omega
  · unfold Builtin.Str.tooLong
    exact decide_eq_false (by omega)
  · split
    · rename_i k1
      have e : k.toNat = 0 := by omega
      rw [e] at q
      exact ⟨by decide, .str (repS z 0), H, I.tok _, ⟨s.toks, rfl⟩, q⟩
    · rename_i k1
      split
      · rename_i k2
        have e : repS z k.toNat = z := by
          rw [Bool.or_eq_true, beq_iff_eq, beq_iff_eq] at k2
          rcases k2 with rfl | k2
          · simp [repS]
          · obtain ⟨⟨cs⟩⟩ := z
            have : cs = [] := List.eq_nil_of_length_eq_zero k2
            subst this
            simp [repS]
        rw [e] at q
        exact ⟨.str z, H, I, (show RelV (.str z) (.str z t) from ⟨t, rfl⟩), q⟩
      · rw [repS_fold]
        exact ⟨by rw [repS_len]; exact hsz, .str (repS z k.toNat), H, I.tok _, ⟨s.toks, rfl⟩, q⟩
theorem tuple_mul1 (l : Addr) (items : Array Value) (n : Nat) (dd : Option Addr) (sl : Array (Option Value)) (u : Tok) :
    Meets (Builtin.«tuple.__mul__» ⟨[.ref l, .int 1 u], []⟩) (fun _ R s => s.heap.get? l = some { cls := .type "tuple", dict := dd, data := .seq items n, slots := sl } ∧ R (.ok (.ret (.ref l))) s) :=
  .of_wp fun prog w A R s h => by
    obtain ⟨hp, g, d, tk, os⟩ := s
    obtain ⟨hl, h⟩ := h
    have f1 := AutoSeq1.idx_int
    wp_walk using wpAny_loadPart' hl
    exact ⟨_, rfl, h⟩
def rRep1 (K : PySem.W.Frag) : R2 := fun x y H Q => ∃ l xs, x = .ref l ∧ y = .int 1 ∧ SqT K H l xs ∧ Q (.ref l) H
theorem op_rep1 {X : Cx} : OpR X (binaryOp .Mult) (rRep1 X.K) := by
  intro pins s σ H x y v u Q I rx ry ⟨l, xs, ex, ey, hT, q⟩
  subst ex ey
  cases rx
  obtain ⟨t, rfl⟩ := ry
  obtain ⟨its, r, ⟨⟨cls, dd, data, sl⟩, ho, hc, n, hd⟩, hs⟩ := I.tuple hT
  simp only at hc hd
  subst hc hd
  exact wpAny_binaryOp_repeat_ref (T := "tuple") (U := "int") (by decide) ⟨_, ho, rfl⟩ (fun s' => typeIs_int s' 1 t) noFill_tuple_mul F.fills_int_mul F.slot_int_rmul repeat_tuple F.slot_int_index.lookup
    (call_meets F.slot_int_rmul (typeIs_int s 1 t) F.entry_int_rmul (F.args_int_rmul_2 _ _) (int_rmul_tuple 1 t l its.toArray n dd sl)
      ⟨ho, rfl, ⟨_, ho, rfl⟩, call_meets F.slot_tuple_mul ⟨_, ho, rfl⟩ F.entry_tuple_mul (F.args_tuple_mul_2 _ _) (tuple_mul1 l its.toArray n dd sl t) ⟨ho, .ref l, H, I, rfl, q⟩⟩)
end Dn

/-! list(text), tuple(text), tuple[::-1] -/
namespace Dn
open PySem PySem.Spec PyProof.Rows L2
def chV (z : Str) : List V := z.cps.toList.map fun c => V.str ⟨#[c]⟩
theorem vals_signs : ∀ {l : List Nat} {us : List Value}, us.length = l.length → (∀ (j : Nat) (v : Value), us[j]? = some v → ∃ c u, l[j]? = some c ∧ v = .str ⟨#[c]⟩ u) → Vals (l.map fun c => V.str ⟨#[c]⟩) us
  | [], [], _, _ => .nil
  | c :: l, u :: us, hl, h => by
    obtain ⟨c', t, e1, e2⟩ := h 0 u rfl
    have e1' : c = c' := Option.some.inj e1
    subst e1'
    rw [List.map_cons]
    exact .cons ⟨t, e2⟩ (vals_signs (by simpa using hl) fun j v e => h (j + 1) v e)
  | [], _ :: _, hl, _ => by simp at hl
  | _ :: _, [], hl, _ => by simp at hl
theorem vals_chV {z : Str} {acc : Array Value} (h : ItemsOf (SignAt z) acc z.cps.size) : Vals (chV z) acc.toList := by
  refine vals_signs (by rw [Array.length_toList, Array.length_toList]; exact h.1) fun j v e => ?_
  obtain ⟨c, u, e1, e2⟩ := h.2 j v (by rw [← Array.getElem?_toList]; exact e)
  exact ⟨c, u, by rw [Array.getElem?_toList]; exact e1, e2⟩
theorem chV_len (z : Str) : (chV z).length = z.length := by
  unfold chV
  rw [List.length_map, Array.length_toList]
  rfl
section
variable {X : Cx}
theorem call_listS (hc : X.calm = true) : CallR X (.type "list") (fun xs H Q => ∃ z : Str, xs = [.str z] ∧ z.length ≤ sizeLine ∧ ∀ p, H p = none → Q (.ref p) (upd H p (.lst (chV z)))) := by
  intro pins s σ H xs us Q I r h
  obtain ⟨z, rfl, hz, q⟩ := h
  obtain ⟨u, rfl, t, rfl⟩ := vals1 r
  refine call_list_str (I.ok.hd hc) z t (fun h' tk acc' c' hk hS' hacc => ?_) hz
  exact ⟨.ref s.heap.objs.size, _, I.laid (t' := tk) hk (Nat.le_refl _) (show ObjOk X.prog X.w _ h' _ (.lst (chV z)) from ⟨by rw [chV_len]; exact hz, acc'.toList, c', vals_chV hacc, by rw [Array.toArray_toList]; exact hS'⟩), rfl, q _ (I.hok.fresh (Nat.le_refl _))⟩
theorem call_tupS (hc : X.calm = true) : CallR X (.type "tuple") (fun xs H Q => ∃ z : Str, xs = [.str z] ∧ z.length ≤ sizeLine ∧ ∀ p o, H p = none → o.dict = none → Q (.ref p) (upd H p (.frz o (.tup (chV z))))) := by
  intro pins s σ H xs us Q I r h
  obtain ⟨z, rfl, hz, q⟩ := h
  obtain ⟨u, rfl, t, rfl⟩ := vals1 r
  refine call_tuple_str (I.ok.hd hc) z t (fun h' tk acc hk hacc => ?_) hz
  have I1 : Inv X pins σ H { s with heap := h', toks := tk } := I.kept (t' := tk) hk
  exact ⟨.ref h'.objs.size, _, I1.laid (t' := tk) (fun b o e => Heap.get?_push_of_some _ e) (Nat.le_refl _) (show ObjOk X.prog X.w _ _ _ (.frz { cls := .type "tuple", data := .seq acc } (.tup (chV z))) from ⟨Heap.get?_push_size _ rfl, by rw [chV_len]; exact hz, acc.toList, vals_chV hacc, by rw [Array.toArray_toList]; exact IsTup.new _ _⟩), rfl, q _ _ (I1.hok.fresh (Nat.le_refl _)) rfl⟩
end
/-! ### tuple[::-1] -/
theorem places_rev (n : Nat) : Builtin.Slice.slicePlaces ((n : Int) - 1) (-1) (-1) = n := by
  unfold Builtin.Slice.slicePlaces
  simp only [show ¬ ((-1 : Int) > 0) by omega, if_false]
  split
  · rw [show -(-1 : Int) = 1 by rfl, Int.ediv_one]
    omega
  · omega
theorem pick_rev (xs : Array Value) : ((List.range xs.size).filterMap fun (m : Nat) => xs[(((xs.size : Nat) : Int) - 1 + (m : Int) * (-1)).toNat]?).toArray = xs.toList.reverse.toArray := by
  congr 1
  have e : ∀ m, m ∈ List.range xs.size → xs[(((xs.size : Nat) : Int) - 1 + (m : Int) * (-1)).toNat]? = some (xs.toList.reverse[m]?.getD .none) := by
    intro m hm
    have hm' : m < xs.size := List.mem_range.mp hm
    have hr : xs.toList.reverse[m]? = xs.toList[xs.size - 1 - m]? := by
      rw [List.getElem?_reverse (by simpa using hm'), Array.length_toList]
    rw [hr, show (((xs.size : Nat) : Int) - 1 + (m : Int) * (-1)).toNat = xs.size - 1 - m by omega, ← Array.getElem?_toList, List.getElem?_eq_getElem (by rw [Array.length_toList]; omega)]
    rfl
  have go : ∀ (l : List Nat) (f : Nat → Option Value) (g : Nat → Value), (∀ m, m ∈ l → f m = some (g m)) → l.filterMap f = l.map g := by
    intro l f g
    induction l with
    | nil => intro _; rfl
    | cons a l ih =>
      intro h
      rw [List.filterMap_cons, h a List.mem_cons_self, List.map_cons]
      simp only
      rw [ih fun m hm => h m (List.mem_cons_of_mem _ hm)]
  rw [go _ _ _ e]
  apply List.ext_getElem?
  intro i
  by_cases hi : i < xs.size
  · rw [List.getElem?_map, List.getElem?_range hi, List.getElem?_eq_getElem (by simpa using hi)]
    simp [List.getElem?_eq_getElem (show i < xs.toList.reverse.length by simpa using hi)]
  · rw [List.getElem?_eq_none (by simp; omega), List.getElem?_eq_none (by simp; omega)]
section
variable {prog : Program} {w : World} {A : Around} {E : Value → Shared → Prop} {s : Shared}
theorem sliceApplied_rev {sl : Addr} {vl vu vs : Value} {n : Nat} {Q : Int × Int × Nat → Shared → Prop} (hs : s.heap.IsSliceOf sl vl vu vs) (pl : IsPart vl none) (pu : IsPart vu none) (ps : IsPart vs (some (-1)))
    (h : Q ((n : Int) - 1, -1, n) s) : wpAny (model prog w) A (Builtin.Slice.sliceApplied (.ref sl) (pure (n : Int))) Q E s := by
  obtain ⟨os, hos, hcs, hds⟩ := id hs
  unfold Builtin.Slice.sliceApplied Builtin.Slice.sliceFields
  refine wpAny_bind (wpAny_bind (wpAny_field hos hds (x := vl) rfl (wpAny_bind (wpAny_field hos hds (x := vu) rfl (wpAny_bind (wpAny_field hos hds (x := vs) rfl (wpAny_pure ?_)))))))
  refine wpAny_bind (HT.slicePart_ ps ?_)
  show wpAny _ _ (if ((-1 : Int) == 0) = true then _ else _) _ _ s
  rw [if_neg (by decide)]
  refine wpAny_bind (HT.slicePart_ pl (wpAny_bind (HT.slicePart_ pu (wpAny_bind (wpAny_pure ?_)))))
  show wpAny _ _ (pure ((n : Int) - 1, (-1 : Int), Builtin.Slice.slicePlaces ((n : Int) - 1) (-1) (-1))) _ _ s
  rw [places_rev]
  exact wpAny_pure h
theorem getItem_tuple_rev {t sl : Addr} {items : Array Value} {vl vu vs : Value} {Q : Value → Shared → Prop} (ht : IsTup s.heap t items) (hs : s.heap.IsSliceOf sl vl vu vs) (pl : IsPart vl none) (pu : IsPart vu none) (ps : IsPart vs (some (-1)))
    (h : Q (.ref s.heap.objs.size) { s with heap := s.heap.push { cls := .type "tuple", data := .seq items.toList.reverse.toArray } })
    (hsz : items.size ≤ sizeLine) : wpAny (model prog w) A (getItem (.ref t) (.ref sl)) Q E s := by
  have htake : sizeOk (.seq items.toList.reverse.toArray) := by
    show items.toList.reverse.toArray.size ≤ sizeLine
    rw [List.size_toArray, List.length_reverse, Array.length_toList]
    exact hsz
  obtain ⟨os, hos, hcs, hds⟩ := id hs
  have hTs : s.TypeIs (.ref sl) "slice" := ⟨os, hos, hcs⟩
  unfold getItem
  try with_reducible refine wpAny_holding ?_
  first | refine wpAny_bind (wpAny_pure ?_) | skip
  refine wpAny_bind (wpAny_sequenceKey ht.typeIs (by decide) ?_)
  refine wpAny_bind (wpAny_callSpecial?_slot (name := Str.ofString "__getitem__") ht.typeIs PyProof.Rows.slot_tuple_getitem
    (wpAny_call_entry PyProof.Rows.slot_tuple_getitem ht.typeIs entry_tuple_getitem ?_ (args_tuple_getitem _ _)))
  show wpAny _ _ (Builtin.Tuple.tupleItemsOf (.ref t) >>= _) _ _ s
  refine wpAny_bind (tupleItemsOf_ ht ?_)
  refine wpAny_bind (wpAny_typeOf hTs ?_)
  rw [if_pos (by decide)]
  refine wpAny_bind (sliceApplied_rev (n := items.size) hs pl pu ps ?_)
  have hno : ¬ (((((items.size : Nat) : Int) - 1) == 0 && (-1 : Int) == 1 && items.size == items.size) = true) := by simp
  show wpAny _ _ (if ((((items.size : Nat) : Int) - 1) == 0 && (-1 : Int) == 1 && items.size == items.size) = true then _ else _) _ _ s
  rw [if_neg hno, pick_rev]
  first
    | exact wpAny_bind (m := Builtin.Tuple.tupleExact _) (wpAny_newObj_type (wpAny_pure ⟨_, rfl, wpAny_pure h⟩) htake)
    | exact wpAny_bind (m := Builtin.Tuple.tupleExact _) (wpAny_newObj_type (wpAny_bind (wpAny_pure (wpAny_pure ⟨_, rfl, wpAny_pure h⟩))) htake)
    | exact wpAny_bind (wpAny_bind (m := Builtin.Tuple.tupleExact _) (wpAny_newObj_type (wpAny_pure (wpAny_pure ⟨_, rfl, wpAny_pure h⟩)) htake))
    | exact wpAny_bind (wpAny_bind (m := Builtin.Tuple.tupleExact _) (wpAny_newObj_type (wpAny_pure ⟨_, rfl, wpAny_pure h⟩) htake))
end
def tRevA (K : PySem.W.Frag) (te : TE) : TE := fun σ H Q => te σ H fun x H1 => (∃ a xs, x = .ref a ∧ SqL K H1 a xs ∧ ∀ p, H1 p = none → Q (.ref p) (upd H1 p (.lst xs.reverse))) ∨ (∃ a xs, x = .ref a ∧ SqT K H1 a xs ∧ ∀ p o, H1 p = none → o.dict = none → Q (.ref p) (upd H1 p (.frz o (.tup xs.reverse))))
theorem pe_revA {X : Cx} {e : Expr} {te : TE} {k : Nat} {p1 p2 p3 pos : Pos} (he : PE X e te) : PE X (.Subscript e (.Slice none none (some (.UnaryOp .USub (.Constant (.int 1) k p1) p2)) p3) pos) (tRevA X.K te) := by
  refine ⟨fun pins s σ H Q I h => ?_⟩
  refine Subscript_ (thn (he.run pins s σ H _ I h) fun v s1 ⟨x, H1, I1, r1, q1⟩ => ?_)
  have hst : PO X (some (.UnaryOp .USub (.Constant (.int 1) k p1) p2)) (tPart (tUn (rU fun i => .int (-i)) (tC (.int 1)))) := po_some (pe_un un_neg pe_int)
  refine wpAny_Slice (thn (po_none.run pins s1 σ H1 (fun o H2 => o = none ∧ H2 = H1) I1 ⟨rfl, rfl⟩) fun vl s2 ⟨l, H2, I2, pl, el, e2⟩ => ?_)
  subst el e2
  refine thn (po_none.run pins s2 σ H2 (fun o H3 => o = none ∧ H3 = H2) I2 ⟨rfl, rfl⟩) fun vu s3 ⟨u, H3, I3, pu, eu, e3⟩ => ?_
  subst eu e3
  refine thn (hst.run pins s3 σ H3 (fun o H4 => o = some (-1) ∧ H4 = H3) I3 ⟨1, rfl, -1, rfl, rfl, rfl⟩) fun vs s4 ⟨o, H4, I4, ps, eo, e4⟩ => ?_
  subst eo e4
  have I5 : Inv X pins σ H4 { s4 with heap := s4.heap.push { cls := .type "slice", data := .fields #[vl, vu, vs] } } := I4.kept (t' := s4.toks) fun b ob q => Heap.get?_push_of_some _ q
  rcases q1 with ⟨a, xs, ex, hx, q⟩ | ⟨a, xs, ex, hx, q⟩
  · subst ex
    cases r1
    obtain ⟨its, r, ht, hz⟩ := I5.list hx
    have hlen := r.length
    show wpAny (model X.prog X.w) X.A (subscriptTail e (.Slice none none (some (.UnaryOp .USub (.Constant (.int 1) k p1) p2)) p3) (.ref a) (.ref s4.heap.objs.size)) (EP X pins σ Q) X.xe { s4 with heap := s4.heap.push { cls := .type "slice", data := .fields #[vl, vu, vs] } }
    refine tail_any (ops := [.ref a, .ref s4.heap.objs.size]) ht.isList.typeIs (PySem.slot_list_getitem.lookup) ?_ (by with_unfolding_all rfl)
    refine wpAny_getItem_list_slice ht.isList (Heap.IsSliceOf.new _ vl vu vs) pl pu ps (by decide) ?_ (by rw [List.size_toArray]; omega)
    rw [PySem.W.krv_pick]
    refine ⟨.ref _, _, I5.laid (t' := s4.toks) (o := .lst xs.reverse) (fun b ob q => Heap.get?_push_of_some _ q) (Nat.le_refl _) ?_, rfl, q _ (I5.hok.fresh (Nat.le_refl _))⟩
    exact ⟨by rw [List.length_reverse]; exact hz, _, 0, r.reverse, Heap.get?_push_size _ rfl⟩
  · subst ex
    cases r1
    obtain ⟨its, r, ht, hz⟩ := I5.tuple hx
    have hlen := r.length
    show wpAny (model X.prog X.w) X.A (subscriptTail e (.Slice none none (some (.UnaryOp .USub (.Constant (.int 1) k p1) p2)) p3) (.ref a) (.ref s4.heap.objs.size)) (EP X pins σ Q) X.xe { s4 with heap := s4.heap.push { cls := .type "slice", data := .fields #[vl, vu, vs] } }
    refine tail_any (ops := [.ref a, .ref s4.heap.objs.size]) ht.typeIs (PyProof.Rows.slot_tuple_getitem.lookup) ?_ (by with_unfolding_all rfl)
    refine getItem_tuple_rev ht (Heap.IsSliceOf.new _ vl vu vs) pl pu ps ?_ (by rw [List.size_toArray]; omega)
    refine ⟨.ref _, _, I5.laid (t' := s4.toks) (o := .frz { cls := .type "tuple", data := .seq its.reverse.toArray } (.tup xs.reverse)) (fun b ob q => Heap.get?_push_of_some _ q) (Nat.le_refl _) ?_, rfl, q _ _ (I5.hok.fresh (Nat.le_refl _)) rfl⟩
    exact ⟨Heap.get?_push_size _ rfl, by rw [List.length_reverse]; exact hz, _, r.reverse, IsTup.new _ _⟩
def rListA (K : PySem.W.Frag) : List V → Hp → VK → Prop := fun xs H Q => (∃ p ys, xs = [.ref p] ∧ (SqL K H p ys ∨ SqT K H p ys) ∧ ∀ l, H l = none → Q (.ref l) (upd H l (.lst ys))) ∨ (∃ z : Str, xs = [.str z] ∧ z.length ≤ sizeLine ∧ ∀ p, H p = none → Q (.ref p) (upd H p (.lst (chV z))))
def rTupA (K : PySem.W.Frag) : List V → Hp → VK → Prop := fun xs H Q => (∃ p ys, xs = [.ref p] ∧ ((SqL K H p ys ∧ ∀ l o, H l = none → o.dict = none → Q (.ref l) (upd H l (.frz o (.tup ys)))) ∨ (SqT K H p ys ∧ Q (.ref p) H))) ∨ (∃ z : Str, xs = [.str z] ∧ z.length ≤ sizeLine ∧ ∀ p o, H p = none → o.dict = none → Q (.ref p) (upd H p (.frz o (.tup (chV z)))))
theorem call_listA {X : Cx} (hc : X.calm = true) : CallR X (.type "list") (rListA X.K) := by
  intro pins s σ H xs us Q I r h
  rcases h with h | h
  · exact call_list_of pins s σ H xs us Q I r h
  · exact call_listS hc pins s σ H xs us Q I r h
theorem call_tupA {X : Cx} (hc : X.calm = true) : CallR X (.type "tuple") (rTupA X.K) := by
  intro pins s σ H xs us Q I r h
  rcases h with h | h
  · obtain ⟨p, ys, rfl, h⟩ := h
    obtain ⟨u, rfl, rx⟩ := vals1 r
    cases rx
    rcases h with ⟨hq, q⟩ | ⟨hq, q⟩
    · obtain ⟨its, r2, pl, hz⟩ := I.list hq
      have hlen := r2.length
      refine call_tuple_list pl.isList (fun h2 kp => ?_) (by rw [List.size_toArray]; omega)
      have I1 : Inv X pins σ H { s with heap := h2 } := I.kept (t' := s.toks) kp
      exact ⟨.ref h2.objs.size, _, I1.laid (t' := s.toks) (fun b o e => Heap.get?_push_of_some _ e) (Nat.le_refl _) (show ObjOk X.prog X.w _ _ _ (.frz { cls := .type "tuple", data := .seq its.toArray } (.tup ys)) from ⟨Heap.get?_push_size _ rfl, hz, its, r2, IsTup.new _ _⟩), rfl, q _ _ (I1.hok.fresh (Nat.le_refl _)) rfl⟩
    · obtain ⟨its, r2, pl, hz⟩ := I.tuple hq
      exact call_tuple_same pl ⟨.ref p, H, I, rfl, q⟩
  · exact call_tupS hc pins s σ H xs us Q I r h
/-! ### the makers of tuples, their objects known -/
section
variable {X : Cx}
def tTupF (t : TA) : TE := fun σ H Q => t σ H fun xs H1 => xs.length ≤ sizeLine ∧ ∀ p o, H1 p = none → o.dict = none → Q (.ref p) (upd H1 p (.frz o (.tup xs)))
theorem pe_tupF {es : List Expr} {t : TA} {pos : Pos} {x1} (h : PA X es t) : PE X (.Tuple es x1 pos) (tTupF t) := by
  refine ⟨fun pins s σ H Q I hq => ?_⟩
  refine wpAny_Tuple_spliced (thn (h.run pos pins s σ H _ I hq) fun us s1 ⟨xs, H1, I1, r, z, q⟩ => ⟨by rw [← r.length]; exact z, ?_⟩)
  exact ⟨.ref s1.heap.objs.size, _, I1.laid (t' := s1.toks) (o := .frz { cls := .type "tuple", data := .seq us.toArray } (.tup xs)) (fun b u e => Heap.get?_push_of_some _ e) (Nat.le_refl _) ⟨Heap.get?_push_size _ rfl, z, us, r, ⟨_, Heap.get?_push_size _ rfl, rfl, _, rfl⟩⟩, rfl, q _ _ (I1.hok.fresh (Nat.le_refl _)) rfl⟩
def rCatF (K : PySem.W.Frag) : R2 := fun x y H Q => ∃ a b xs ys, x = .ref a ∧ y = .ref b ∧ SqT K H a xs ∧ SqT K H b ys ∧ xs.length + ys.length ≤ sizeLine ∧
  (xs = [] → Q (.ref b) H) ∧ (xs ≠ [] → ys = [] → Q (.ref a) H) ∧ (xs ≠ [] → ys ≠ [] → ∀ p o, H p = none → o.dict = none → Q (.ref p) (upd H p (.frz o (.tup (xs ++ ys)))))
theorem op_catF : OpR X (binaryOp .Add) (rCatF X.K) := by
  intro pins s σ H x y v u Q I rx ry h
  obtain ⟨a, b, xs, ys, rfl, rfl, ha, hb, hz, q0, q1, q2⟩ := h
  cases rx
  cases ry
  obtain ⟨its, r1, p1, _⟩ := I.tuple ha
  obtain ⟨its2, r2, p2, _⟩ := I.tuple hb
  by_cases hx : xs = []
  · subst hx
    cases r1
    exact cat_tup0 p1 p2 ⟨.ref b, H, I, rfl, q0 rfl⟩
  · refine HT.cat_tup p1 p2 (fun z => hx (r1.nil_iff.mp z)) (fun z => ⟨.ref a, H, I, rfl, q1 hx (r2.nil_iff.mp z)⟩) (fun z => ?_) (by rw [← r1.length, ← r2.length]; exact hz)
    exact ⟨.ref s.heap.objs.size, _, I.laid (t' := s.toks) (o := .frz { cls := .type "tuple", data := .seq (its ++ its2).toArray } (.tup (xs ++ ys))) (fun b ob q => Heap.get?_push_of_some _ q) (Nat.le_refl _) ⟨Heap.get?_push_size _ rfl, by rw [List.length_append]; exact hz, _, r1.append r2, IsTup.new _ _⟩, rfl, q2 hx (fun w => z (r2.nil_iff.mpr w)) _ _ (I.hok.fresh (Nat.le_refl _)) rfl⟩
def rSlF (K : PySem.W.Frag) : V → Option Int → Option Int → Hp → VK → Prop := fun x lo hi H Q => ∃ a xs, x = .ref a ∧ SqT K H a xs ∧
  (HT.sIx xs.length 0 lo = 0 ∧ HT.sIx xs.length xs.length hi = xs.length → Q (.ref a) H) ∧ (¬ (HT.sIx xs.length 0 lo = 0 ∧ HT.sIx xs.length xs.length hi = xs.length) → ∀ p o, H p = none → o.dict = none → Q (.ref p) (upd H p (.frz o (.tup (cutV xs lo hi)))))
theorem sl_tupF : SlR X (rSlF X.K) := by
  intro pins s σ H x v vl vu lo hi sl Q I rx hs pl pu h
  obtain ⟨a, xs, rfl, hx, q1, q2⟩ := h
  cases rx
  obtain ⟨its, r, ht, hz⟩ := I.tuple hx
  have hlen : its.toArray.size = xs.length := by rw [List.size_toArray]; exact r.length.symm
  refine ⟨"tuple", _, PyProof.Rows.slot_tuple_getitem.lookup, ht.typeIs, ?_⟩
  by_cases hw : HT.sIx xs.length 0 lo = 0 ∧ HT.sIx xs.length xs.length hi = xs.length
  · exact getItem_tuple_whole ht hs pl pu (by rw [hlen]; exact hw) ⟨.ref a, H, I, rfl, q1 hw⟩
  · refine HT.getItem_tuple_cut ht hs pl pu (by rw [hlen]; exact hw) ?_ (by rw [hlen]; exact hz)
    rw [hlen]
    exact ⟨.ref s.heap.objs.size, _, I.laid (t' := s.toks) (o := .frz _ (.tup (cutV xs lo hi))) (fun b ob q => Heap.get?_push_of_some _ q) (Nat.le_refl _) ⟨Heap.get?_push_size _ rfl, Nat.le_trans (cutV_length xs lo hi) hz, _, (r.drop (HT.sIx xs.length 0 lo)).take (HT.sIx xs.length xs.length hi - HT.sIx xs.length 0 lo), IsTup.new _ _⟩, rfl, q2 hw _ _ (I.hok.fresh (Nat.le_refl _)) rfl⟩
/-- a tuple so many times, its object known -/
def rRepF (K : PySem.W.Frag) : R2 := fun x y H Q => ∃ b m ts, x = .ref b ∧ y = .int m ∧ SqT K H b ts ∧ ts ≠ [] ∧ 2 ≤ m ∧ m ≤ 1000 ∧ ts.length ≤ 1000 ∧ ∀ p o, H p = none → o.dict = none → Q (.ref p) (upd H p (.frz o (.tup (List.replicate m.toNat ts).flatten)))
theorem op_repF : OpR X (binaryOp .Mult) (rRepF X.K) := by
  intro pins s σ H x y v u Q I rx ry ⟨b, m, ts, ex, ey, hT, hne, h1, h2, hz, q⟩
  subst ex
  subst ey
  cases rx
  obtain ⟨t, et⟩ := ry
  subst et
  obtain ⟨us, ru, ⟨⟨cl, dd, dat, slt⟩, hob, hcl, n, hdat⟩, _⟩ := I.tuple hT
  simp only at hcl hdat
  subst hcl
  subst hdat
  have el : us.length = ts.length := ru.length.symm
  have une : us ≠ [] := fun e => hne (List.eq_nil_of_length_eq_zero (by rw [← el, e]; rfl))
  have uem : us.toArray.isEmpty = false := by
    cases us with
    | nil => exact absurd rfl une
    | cons _ _ => rfl
  have usz : us.toArray.size = ts.length := by rw [List.size_toArray, el]
  have um : ((us.toArray.size : Nat) : Int) * m ≤ 1000000 := by
    rw [usz]
    exact Int.le_trans (Int.mul_le_mul_of_nonneg_right (show ((ts.length : Nat) : Int) ≤ 1000 by omega) (by omega)) (by omega)
  have fl : (List.replicate m.toNat us).flatten.length ≤ sizeLine := by
    rw [PyProof.Rows.lm_len_rep_flat, el, sizeLine_eq]
    exact Nat.le_trans (Nat.mul_le_mul (show m.toNat ≤ 1000 by omega) hz) (by omega)
  have d0 : (decide (m < -(2 ^ 63)) || decide (m ≥ 2 ^ 63)) = false := by rw [decide_eq_false (by omega), decide_eq_false (by omega)]; rfl
  have d1 : (us.toArray.isEmpty || m == 1) = false := by rw [uem, Bool.false_or]; exact beq_eq_false_iff_ne.mpr (by omega)
  have d2 : (decide (m ≤ 0) || us.toArray.isEmpty) = false := by rw [uem, Bool.or_false]; exact decide_eq_false (by omega)
  have d4 : Builtin.Tuple.tupleTooMany (((us.toArray.size : Nat) : Int) * m) = false := by unfold Builtin.Tuple.tupleTooMany; rw [sizeLine_eq]; exact decide_eq_false (by omega)
  refine wpAny_binaryOp_repeat_ref (T := "tuple") (U := "int") (by decide) ⟨_, hob, rfl⟩ (fun s' => typeIs_int s' m t) noFill_tuple_mul F.fills_int_mul F.slot_int_rmul repeat_tuple F.slot_int_index.lookup (call_meets F.slot_int_rmul (typeIs_int s m t) F.entry_int_rmul (F.args_int_rmul_2 _ _) (int_rmul_tuple m t b us.toArray n dd slt) ⟨hob, rfl, ⟨_, hob, rfl⟩, call_meets F.slot_tuple_mul ⟨_, hob, rfl⟩ F.entry_tuple_mul (F.args_tuple_mul_2 _ _) (tuple_mulW b us.toArray n dd slt m t d0 d1 d2 (by omega) d4 (by rw [size_rep, List.size_toArray]; exact fl)) ⟨hob, ?_⟩⟩)
  rw [size_rep]
  exact ⟨.ref s.heap.objs.size, _, I.laid (t' := s.toks) (o := .frz _ (.tup (List.replicate m.toNat ts).flatten)) (fun b ob q => Heap.get?_push_of_some _ q) (Nat.le_refl _) ⟨Heap.get?_push_size _ rfl, by rw [PyProof.Rows.lm_len_rep_flat, sizeLine_eq]; exact Nat.le_trans (Nat.mul_le_mul (show m.toNat ≤ 1000 by omega) hz) (by omega), _, ru.rep m.toNat, IsTup.new _ _⟩, rfl, q _ _ (I.hok.fresh (Nat.le_refl _)) rfl⟩
/-- t.index(x) of a tuple whose object is known -/
def tyTup (x : V) (H : Hp) : Prop := ∃ a o xs, x = .ref a ∧ H a = some (.frz o (.tup xs)) ∧ o.dict = none
theorem tyTup_is {pins : List (Addr × Obj)} {σ : L2.St} {H : Hp} {s : Shared} {x : V} {v : Value} (I : Inv X pins σ H s) (r : RelV x v) (ty : tyTup x H) :
    s.TypeIs v "tuple" ∧ ∀ a, v = .ref a → ∃ ob, s.heap.get? a = some ob ∧ ob.dict = none := by
  obtain ⟨a, o, xs, rfl, h, hd⟩ := ty
  cases r
  obtain ⟨e, _, its, _, pl⟩ := (show ObjOk X.prog X.w H s.heap a (.frz o (.tup xs)) from I.hok a _ h)
  refine ⟨pl.typeIs, fun b q => ?_⟩
  cases q
  exact ⟨o, e, hd⟩
def tBMT (r : V → List V → Hp → VK → Prop) (to : TE) (t : TA) : TE := fun σ H Q => to σ H fun x H1 => tyTup x H1 ∧ t σ H1 fun xs H2 => r x xs H2 Q
theorem pe_bmT {o e : Expr} {es : List Expr} {to : TE} {t : TA} {name : Str} {apos cpos : Pos} {id : String} {r : V → List V → Hp → VK → Prop} (pa : PlainAttrs "tuple") (slot : Slot "tuple" name id) (hty : typeOf (.builtin id) = pure (.type "method_descriptor")) (hm : MtR X id r) (ho : PE X o to) (ha : PA X (e :: es) t)
    (hbase : attributeBase o name X.env (eval o X.env) = eval o X.env)
    (hfew : ((backTo cpos (starEach (e :: es) X.env)).all (fun x => !x.1) && (backToKw cpos (keywordEach [] X.env)).all (fun x => x.1.isSome)
      && decide ((e :: es).length + ([] : List Keyword).length + (if ([] : List Keyword).isEmpty then 0 else 1) < 30)) = true)
    (hline : (apos.endLine == cpos.line) = true) (hs : starEach (e :: es) X.env = (false, eval e X.env) :: starEach es X.env) (hplain : (backTo cpos (starEach es X.env)).any (·.1) = false) :
    PE X (.Call (.Attribute o name apos) (e :: es) [] cpos) (tBMT r to t) := by
  refine ⟨fun pins s σ H Q I h => ?_⟩
  refine wpAny_Call_method_late hbase hfew hline rfl (thn (ho.run pins s σ H _ I h) fun v s1 ⟨x, H1, I1, r1, ty, q1⟩ => ?_)
  obtain ⟨h1, h2⟩ := tyTup_is I1 r1 ty
  refine ⟨"tuple", id, pa, slot, hty, h1, h2, ?_⟩
  have hA := ha.run cpos pins s1 σ H1 _ I1 q1
  rw [hs] at hA ⊢
  refine Calls.callWith_builtin (by show (false || (backTo cpos (starEach es X.env)).any (·.1)) = false; rw [hplain] <;> rfl) (Calls.evalArgs_plain ?_)
  exact thn hA fun us s2 ⟨vs, H2, I2, r2, q2⟩ => hm pins s2 σ H2 x vs v us Q I2 r1 r2 q2
end
end Dn

namespace Dn
open PySem PySem.Spec L2
section
variable {X : DX} {W : WX}

/-! ### names, constants -/
def dVar (i : Nat) : DE := fun sl S => match sl[i]? with
  | some (some t) => .ok t S
  | _ => .bad
theorem le_var {e : Expr} {i : Nat} (h : PE X e (tVar i)) : LE X W e (dVar i) := h.imp fun σ H Q ⟨ρ, av, sl, S, hs, he, g⟩ => by
  unfold dVar at g
  cases e1 : sl[i]? with
  | none => rw [e1] at g; exact g.elim
  | some o =>
    cases o with
    | none => rw [e1] at g; exact g.elim
    | some t =>
      rw [e1] at g
      obtain ⟨v, hv, r⟩ := he.at_ i t e1
      exact ⟨v, hv, g v H ρ (Ext.refl _ _) (by rw [r.avN]; exact hs) r.toR⟩
def dC (t : T) : DE := fun _ S => .ok t S
theorem le_c {e : Expr} {v : V} {t : T} (h : PE X e (tC v)) (r : ∀ H ρ av, RepV X.K X.w H ρ av v t) : LE X W e (dC t) := h.imp fun σ H Q ⟨ρ, av, sl, S, hs, he, g⟩ =>
  g v H ρ (Ext.refl _ _) (by rw [(r H ρ av).avN]; exact hs) (r _ _ _).toR

/-! ### two values in a row -/
def dBin (f : T → T → Sto → RE) (da db : DE) : DE := fun sl S => (da sl S).bind fun x S1 => (db sl S1).bind fun y S2 => f (fz x) (fz y) S2
/-- what an operation by values must do -/
def OpD (X : DX) (r : R2) (f : T → T → Sto → RE) : Prop := ∀ (W : WX) (σ : L2.St) (H : Hp) (ρ av : List Addr) (S : Sto) (x y : V) (tx ty : T) (Q : VK),
  RepS X.K X.w H ρ av S → RepV X.K X.w H ρ av x tx → RepV X.K X.w H ρ av y ty → GoodE X W σ H ρ av Q (f tx ty S) → r x y H Q
theorem lift_bin {r : R2} {f : T → T → Sto → RE} {da db : DE} (hf : OpD X r f) (σ : L2.St) (H : Hp) (Q : VK) (h : liftE X W (dBin f da db) σ H Q) : tOp r (liftE X W da) (liftE X W db) σ H Q := by
  obtain ⟨ρ, av, sl, S, hs, he, g⟩ := h
  refine ⟨ρ, av, sl, S, hs, he, GoodE.step g fun t S1 _ v H1 ρ1 e1 s1 r1 g1 => ⟨ρ1, av, sl, S1, s1, he.ext e1, GoodE.step g1 fun t2 S2 _ v2 H2 ρ2 e2 s2 r2 g2 => ?_⟩⟩
  exact hf W σ H2 ρ2 av S2 v v2 _ _ Q s2 (r1.toV.ext e2) r2.toV g2
theorem le_bin {r : R2} {f : T → T → Sto → RE} {da db : DE} {e : Expr} (hf : OpD X r f) (h : PE X e (tOp r (liftE X W da) (liftE X W db))) : LE X W e (dBin f da db) := h.imp fun σ H Q q => lift_bin hf σ H Q q
/-- one value -/
def dUn (f : T → Sto → RE) (da : DE) : DE := fun sl S => (da sl S).bind fun x S1 => f (fz x) S1
def OpD1 (X : DX) (r : V → Hp → VK → Prop) (f : T → Sto → RE) : Prop := ∀ (W : WX) (σ : L2.St) (H : Hp) (ρ av : List Addr) (S : Sto) (x : V) (tx : T) (Q : VK),
  RepS X.K X.w H ρ av S → RepV X.K X.w H ρ av x tx → GoodE X W σ H ρ av Q (f tx S) → r x H Q
theorem le_un {r : V → Hp → VK → Prop} {f : T → Sto → RE} {da : DE} {e : Expr} (hf : OpD1 X r f) (h : PE X e (tUn r (liftE X W da))) : LE X W e (dUn f da) := h.imp fun σ H Q ⟨ρ, av, sl, S, hs, he, g⟩ =>
  ⟨ρ, av, sl, S, hs, he, GoodE.step g fun t S1 _ v H1 ρ1 e1 s1 r1 g1 => hf W σ H1 ρ1 av S1 v _ Q s1 r1.toV g1⟩

/-- the result is there at once, the heap as it was -/
theorem GoodE.now {σ : L2.St} {H : Hp} {ρ av : List Addr} {S : Sto} {Q : VK} {t : T} {v : V} (g : GoodE X W σ H ρ av Q (.ok t S)) (hs : RepS X.K X.w H ρ av S) (r : RepV X.K X.w H ρ av v t) : Q v H := g v H ρ (Ext.refl _ _) (by rw [r.avN]; exact hs) r.toR
/-- a new tuple -/
theorem GoodE.newTup {σ : L2.St} {H : Hp} {ρ av : List Addr} {S : Sto} {Q : VK} {ts : List T} {vs : List V} (g : GoodE X W σ H ρ av Q (.ok (.tup ts) S)) (hs : RepS X.K X.w H ρ av S) (r : RepVs X.K X.w H ρ av vs ts) {p : Addr} {o : Obj} (hp : H p = none) (hd : o.dict = none) : Q (.ref p) (upd H p (.frz o (.tup vs))) :=
  g _ _ ρ (Ext.laid hs hp _) (hs.laid hp _) (RepV.toR (.tup upd_same hd (r.ext (Ext.laid hs hp _))))
theorem notin_new {H : Hp} {ρ av : List Addr} {S : Sto} {K : PySem.W.Frag} {w : World} (hs : RepS K w H ρ av S) {p : Addr} (hp : H p = none) : p ∉ ρ ∧ p ∉ av :=
  ⟨fun z => (by obtain ⟨u, hu, _⟩ := hs.there z; rw [hp] at hu; cases hu), fun z => (hs.out p z).1 hp⟩
/-- a new list -/
theorem GoodE.newLst {σ : L2.St} {H : Hp} {ρ av : List Addr} {S : Sto} {Q : VK} {ts : List T} {vs : List V} (g : GoodE X W σ H ρ av Q (.ok (.nlst ts) S)) (hs : RepS X.K X.w H ρ av S) (r : RepVs X.K X.w H ρ av vs ts) {p : Addr} (hp : H p = none) : Q (.ref p) (upd H p (.lst vs)) :=
  g _ _ ρ (Ext.laid hs hp _) (hs.laidN hp _) ⟨p, vs, rfl, hp, upd_same, (notin_new hs hp).1, (notin_new hs hp).2, (r.more hp).ext (Ext.laid hs hp _)⟩

/-! ### reading lists, tuples -/
/-- the items of a list -/
def lstOf (S : Sto) : T → Option (List T)
  | .lst ts => some ts
  | .flst ts => some ts
  | .ref i => match S[i]? with
    | some (.lst ts) => some ts
    | _ => none
  | _ => none
/-- .. of one that is an object of its own -/
def lstOf' (S : Sto) : T → Option (List T)
  | .lst ts => some ts
  | .ref i => match S[i]? with
    | some (.lst ts) => some ts
    | _ => none
  | _ => none
theorem lst_rep' {K : PySem.W.Frag} {w : World} {H : Hp} {ρ av : List Addr} {S : Sto} {v : V} {t : T} {ts : List T} (hs : RepS K w H ρ av S) (r : RepV K w H ρ av v t) (h : lstOf' S t = some ts) : ∃ a vs, v = .ref a ∧ H a = some (.lst vs) ∧ RepVs K w H ρ av vs ts := by
  cases r with
  | lst h0 h1 h2 rs => cases h; exact ⟨_, _, rfl, h0, rs⟩
  | @ref a i hi =>
    obtain ⟨o, ho, ro⟩ := hs.of_ref hi
    simp only [lstOf', ho] at h
    cases o with
    | lst us => cases h; obtain ⟨vs, h1, h2⟩ := ro; exact ⟨_, _, rfl, h1, h2⟩
    | _ => cases h
  | _ => cases h
theorem lst_rep {K : PySem.W.Frag} {w : World} {H : Hp} {ρ av : List Addr} {S : Sto} {v : V} {t : T} {ts : List T} (hs : RepS K w H ρ av S) (r : RepV K w H ρ av v t) (h : lstOf S t = some ts) : ∃ a vs, v = .ref a ∧ SqL K H a vs ∧ RepVs K w H ρ av vs ts := by
  cases r with
  | lst h0 h1 h2 rs => cases h; exact ⟨_, _, rfl, .inl (.inl h0), rs⟩
  | flst h0 rs => cases h; exact ⟨_, _, rfl, h0.elim (fun ⟨o, q⟩ => .inl (.inr ⟨o, q⟩)) .inr, rs⟩
  | @ref a i hi =>
    obtain ⟨o, ho, ro⟩ := hs.of_ref hi
    simp only [lstOf, ho] at h
    cases o with
    | lst us => cases h; obtain ⟨vs, h1, h2⟩ := ro; exact ⟨_, _, rfl, .inl (.inl h1), h2⟩
    | _ => cases h
  | _ => cases h
theorem tup_rep {K : PySem.W.Frag} {w : World} {H : Hp} {ρ av : List Addr} {v : V} {ts : List T} (r : RepV K w H ρ av v (.tup ts)) : ∃ a vs, v = .ref a ∧ SqT K H a vs ∧ RepVs K w H ρ av vs ts := by
  cases r with
  | tup h hd rs => exact ⟨_, _, rfl, .inl (.inr ⟨_, h⟩), rs⟩
/-- the items of a list or a tuple -/
def seqOf (S : Sto) : T → Option (List T)
  | .tup ts => some ts
  | .ktup ts => some ts
  | t => lstOf S t
theorem seq_rep {K : PySem.W.Frag} {w : World} {H : Hp} {ρ av : List Addr} {S : Sto} {v : V} {t : T} {ts : List T} (hs : RepS K w H ρ av S) (r : RepV K w H ρ av v t) (h : seqOf S t = some ts) : ∃ a vs, v = .ref a ∧ (SqL K H a vs ∨ SqT K H a vs) ∧ RepVs K w H ρ av vs ts := by
  cases t with
  | tup us =>
    cases h
    obtain ⟨a, vs, e, q, rs⟩ := tup_rep r
    exact ⟨a, vs, e, .inr q, rs⟩
  | ktup us =>
    cases h
    cases r with
    | tupK h rs => exact ⟨_, _, rfl, .inr (.inr h), rs⟩
  | _ =>
    obtain ⟨a, vs, e, q, rs⟩ := lst_rep hs r h
    exact ⟨a, vs, e, .inl q, rs⟩
theorem RepV.int_inv {K : PySem.W.Frag} {w : World} {H : Hp} {ρ av : List Addr} {v : V} {i : Int} (r : RepV K w H ρ av v (.int i)) : v = .int i := by cases r; rfl
theorem RepV.str_inv {K : PySem.W.Frag} {w : World} {H : Hp} {ρ av : List Addr} {v : V} {i : Str} (r : RepV K w H ρ av v (.str i)) : v = .str i := by cases r; rfl
theorem RepV.bl_inv {K : PySem.W.Frag} {w : World} {H : Hp} {ρ av : List Addr} {v : V} {i : Bool} (r : RepV K w H ρ av v (.bl i)) : v = .bl i := by cases r; rfl
theorem RepV.non_inv {K : PySem.W.Frag} {w : World} {H : Hp} {ρ av : List Addr} {v : V} (r : RepV K w H ρ av v .non) : v = .non := by cases r; rfl

/-! ### arithmetic -/
/-- ints alone, under a condition -/
def fInt (C : Int → Int → Prop) [∀ i j, Decidable (C i j)] (g : Int → Int → Int) : T → T → Sto → RE := fun x y S => match x, y with
  | .int i, .int j => if C i j then .ok (.int (g i j)) S else .bad
  | _, _ => .bad
theorem od_int {C : Int → Int → Prop} [∀ i j, Decidable (C i j)] {g : Int → Int → Int} : OpD X (rI C fun i j => .int (g i j)) (fInt C g) := by
  intro W σ H ρ av S x y tx ty Q hs rx ry q
  unfold fInt at q
  split at q
  · rename_i i j
    cases rx.int_inv; cases ry.int_inv
    split at q
    · rename_i c
      exact ⟨i, j, rfl, rfl, c, q.now hs (.int _)⟩
    · exact q.elim
  · exact q.elim
/-- + -/
def fAdd : T → T → Sto → RE := fun x y S => match x, y with
  | .int i, .int j => .ok (.int (i + j)) S
  | .str a, .str b => if a.length + b.length ≤ sizeLine then .ok (.str (a ++ b)) S else .bad
  | .tup xs, .tup ys => if xs.length + ys.length ≤ sizeLine then .ok (.tup (xs ++ ys)) S else .bad
  | x, y => match lstOf' S x, lstOf' S y with
    | some xs, some ys => if xs.length + ys.length ≤ sizeLine then .ok (.nlst (xs ++ ys)) S else .bad
    | _, _ => .bad
def rAdd4 (K : PySem.W.Frag) : R2 := fun x y H Q => rI0 (fun i j => .int (i + j)) x y H Q ∨ (∃ i j, x = .str i ∧ y = .str j ∧ i.length + j.length ≤ sizeLine ∧ Q (.str (i ++ j)) H) ∨ rCatF K x y H Q ∨ rCat x y H Q
theorem op_add4 : OpR X (binaryOp .Add) (rAdd4 X.K) := op_add.or (op_add_str.or (op_catF.or op_cat))
theorem od_lists {K : PySem.W.Frag} {W : WX} {σ : L2.St} {H : Hp} {ρ av : List Addr} {S : Sto} {x y : V} {tx ty : T} {Q : VK} (hs : RepS X.K X.w H ρ av S) (rx : RepV X.K X.w H ρ av x tx) (ry : RepV X.K X.w H ρ av y ty)
    (q : GoodE X W σ H ρ av Q (match lstOf' S tx, lstOf' S ty with
      | some xs, some ys => if xs.length + ys.length ≤ sizeLine then .ok (.nlst (xs ++ ys)) S else .bad
      | _, _ => .bad)) : rCat x y H Q := by
  split at q
  · rename_i xs ys h1 h2
    split at q
    · rename_i hl
      obtain ⟨a, vs, rfl, ha, ra⟩ := lst_rep' hs rx h1
      obtain ⟨b, us, rfl, hb, rb⟩ := lst_rep' hs ry h2
      exact ⟨a, b, vs, us, rfl, rfl, ha, hb, by rw [ra.length, rb.length]; exact hl, fun p hp => q.newLst hs (ra.append rb) hp⟩
    · exact q.elim
  · exact q.elim
theorem od_add : OpD X (rAdd4 X.K) fAdd := by
  intro W σ H ρ av S x y tx ty Q hs rx ry q
  unfold fAdd at q
  split at q
  · cases rx.int_inv; cases ry.int_inv
    exact .inl ⟨_, _, rfl, rfl, q.now hs (.int _)⟩
  · cases rx.str_inv; cases ry.str_inv
    split at q
    · rename_i hl
      exact .inr (.inl ⟨_, _, rfl, rfl, hl, q.now hs (.str _)⟩)
    · exact q.elim
  · rename_i xs ys
    split at q
    · rename_i hl
      obtain ⟨a, vs, rfl, ha, ra⟩ := tup_rep rx
      obtain ⟨b, us, rfl, hb, rb⟩ := tup_rep ry
      refine .inr (.inr (.inl ⟨a, b, vs, us, rfl, rfl, ha, hb, by rw [ra.length, rb.length]; exact hl, fun e => ?_, fun _ e => ?_, fun _ _ p o hp hd => q.newTup hs (ra.append rb) hp hd⟩))
      · subst e; cases ra
        exact q.now hs ry
      · subst e; cases rb
        rw [List.append_nil] at q
        exact q.now hs rx
    · exact q.elim
  · exact .inr (.inr (.inr (od_lists (K := X.K) hs rx ry q)))
theorem le_add {a b : Expr} {pos : Pos} {da db : DE} (ha : LE X W a da) (hb : LE X W b db) : LE X W (.BinOp a .Add b pos) (dBin fAdd da db) := le_bin od_add (pe_op op_add4 ha hb)
theorem le_sub {a b : Expr} {pos : Pos} {da db : DE} (ha : LE X W a da) (hb : LE X W b db) : LE X W (.BinOp a .Sub b pos) (dBin (fInt (fun _ _ => True) (· - ·)) da db) :=
  le_bin od_int (pe_op (r := rI (fun _ _ => True) fun i j => .int (i - j)) (fun pins s σ H x y v u Q I rx ry ⟨i, j, ex, ey, _, q⟩ => op_sub pins s σ H x y v u Q I rx ry ⟨i, j, ex, ey, q⟩) ha hb)
theorem le_mod {a b : Expr} {pos : Pos} {da db : DE} (ha : LE X W a da) (hb : LE X W b db) : LE X W (.BinOp a .Mod b pos) (dBin (fInt (fun _ j => 0 < j) (· % ·)) da db) := le_bin od_int (pe_op op_mod ha hb)
instance (i j : Int) : Decidable (CDivW i j) := by unfold CDivW; infer_instance
instance (i j : Int) : Decidable (CMulW i j) := by unfold CMulW; infer_instance
instance (i j : Int) : Decidable (CPow i j) := by unfold CPow; infer_instance
theorem le_fdiv {a b : Expr} {pos : Pos} {da db : DE} (ha : LE X W a da) (hb : LE X W b db) : LE X W (.BinOp a .FloorDiv b pos) (dBin (fInt CDivW (· / ·)) da db) := le_bin od_int (pe_op op_fdivW ha hb)
theorem le_pow {a b : Expr} {pos : Pos} {da db : DE} (ha : LE X W a da) (hb : LE X W b db) : LE X W (.BinOp a .Pow b pos) (dBin (fInt CPow fun i j => i ^ j.toNat) da db) := le_bin od_int (pe_op op_pow ha hb)
/-- a base below 2 ^ 10000 -/
def CPowW (i j : Int) : Prop := 0 ≤ j ∧ j ≤ 1000 ∧ i.natAbs.log2 < 10000
instance (i j : Int) : Decidable (CPowW i j) := by unfold CPowW; infer_instance
theorem op_powW : OpR X (binaryOp .Pow) (rI CPowW fun i j => .int (i ^ j.toNat)) := opI fun i j _ _ _ _ _ hc q => PyProof.Rows.pow_int hc.1 (by
  have hb : Builtin.Int.intBits i ≤ 10000 := by
    unfold Builtin.Int.intBits
    have := hc.2.2
    split <;> omega
  have h1 : (Builtin.Int.intBits i : Int) * j ≤ 10000 * j := Int.mul_le_mul_of_nonneg_right (by omega) hc.1
  have := hc.2.1
  omega) q
theorem le_powW {a b : Expr} {pos : Pos} {da db : DE} (ha : LE X W a da) (hb : LE X W b db) : LE X W (.BinOp a .Pow b pos) (dBin (fInt CPowW fun i j => i ^ j.toNat) da db) := le_bin od_int (pe_op op_powW ha hb)
theorem le_shl {a b : Expr} {pos : Pos} {da db : DE} (ha : LE X W a da) (hb : LE X W b db) : LE X W (.BinOp a .LShift b pos) (dBin (fInt CPow fun i j => i * 2 ^ j.toNat) da db) := le_bin od_int (pe_op op_shl ha hb)
theorem le_shr {a b : Expr} {pos : Pos} {da db : DE} (ha : LE X W a da) (hb : LE X W b db) : LE X W (.BinOp a .RShift b pos) (dBin (fInt (fun _ j => 0 ≤ j) fun i j => i / 2 ^ j.toNat) da db) := le_bin od_int (pe_op op_shr ha hb)
theorem le_and {a b : Expr} {pos : Pos} {da db : DE} (ha : LE X W a da) (hb : LE X W b db) : LE X W (.BinOp a .BitAnd b pos) (dBin (fInt (fun _ _ => True) Builtin.bitAnd) da db) :=
  le_bin od_int (pe_op (r := rI (fun _ _ => True) fun i j => .int (Builtin.bitAnd i j)) (fun pins s σ H x y v u Q I rx ry ⟨i, j, ex, ey, _, q⟩ => op_and pins s σ H x y v u Q I rx ry ⟨i, j, ex, ey, q⟩) ha hb)
/-- * : ints (one of them small, or both together below a million bits), a tuple or a list so many times -/
def CMulA (i j : Int) : Prop := CMul i j ∨ CMulW i j
instance (i j : Int) : Decidable (CMul i j) := by unfold CMul; infer_instance
instance (i j : Int) : Decidable (CMulA i j) := by unfold CMulA; infer_instance
def fMul : T → T → Sto → RE := fun x y S => match x, y with
  | .int i, .int j => if CMulA i j then .ok (.int (i * j)) S else .bad
  | .str z, .int k => if -(2 ^ 63) ≤ k ∧ k < 2 ^ 63 ∧ z.length * k.toNat ≤ 16777216 then .ok (.str (repS z k.toNat)) S else .bad
  | .tup xs, .int k => if k = 1 then .ok (.tup xs) S else if xs ≠ [] ∧ 2 ≤ k ∧ k ≤ 1000 ∧ xs.length ≤ 1000 then .ok (.tup (List.replicate k.toNat xs).flatten) S else .bad
  | .ref i, .int k => match S[i]? with
    | some (.lst xs) => if -(2 ^ 63) ≤ k ∧ k < 2 ^ 63 ∧ xs.length * k.toNat ≤ sizeLine then .ok (.nlst (List.replicate k.toNat xs).flatten) S else .bad
    | _ => .bad
  | .lst xs, .int k => if -(2 ^ 63) ≤ k ∧ k < 2 ^ 63 ∧ xs.length * k.toNat ≤ sizeLine then .ok (.nlst (List.replicate k.toNat xs).flatten) S else .bad
  | _, _ => .bad
theorem RepVs.rep {K : PySem.W.Frag} {w : World} {H : Hp} {ρ av : List Addr} {vs : List V} {ts : List T} (r : RepVs K w H ρ av vs ts) : ∀ k : Nat, RepVs K w H ρ av (List.replicate k vs).flatten (List.replicate k ts).flatten
  | 0 => .nil
  | k + 1 => by rw [List.replicate_succ, List.replicate_succ, List.flatten_cons, List.flatten_cons]; exact r.append (RepVs.rep r k)
def rMul4 (K : PySem.W.Frag) : R2 := fun x y H Q => rI CMul (fun i j => .int (i * j)) x y H Q ∨ rI CMulW (fun i j => .int (i * j)) x y H Q ∨ rRepF K x y H Q ∨ rRep x y H Q ∨ rRepS x y H Q ∨ rRep1 K x y H Q
theorem op_mul4 : OpR X (binaryOp .Mult) (rMul4 X.K) := op_mul.or (op_mulW.or (op_repF.or (op_rep.or (op_repS.or op_rep1))))
theorem od_mul : OpD X (rMul4 X.K) fMul := by
  intro W σ H ρ av S x y tx ty Q hs rx ry q
  unfold fMul at q
  split at q
  · cases rx.int_inv; cases ry.int_inv
    split at q
    · rename_i c
      rcases c with c | c
      · exact .inl ⟨_, _, rfl, rfl, c, q.now hs (.int _)⟩
      · exact .inr (.inl ⟨_, _, rfl, rfl, c, q.now hs (.int _)⟩)
    · exact q.elim
  · cases rx.str_inv; cases ry.int_inv
    split at q
    · rename_i c
      exact .inr (.inr (.inr (.inr (.inl ⟨_, _, rfl, rfl, c.1, c.2.1, c.2.2, q.now hs (.str _)⟩))))
    · exact q.elim
  · cases ry.int_inv
    split at q
    · rename_i c
      subst c
      obtain ⟨a, vs, rfl, ha, ra⟩ := tup_rep rx
      exact .inr (.inr (.inr (.inr (.inr ⟨a, vs, rfl, rfl, ha, q.now hs rx⟩))))
    obtain ⟨a, vs, rfl, ha, ra⟩ := tup_rep rx
    split at q
    · rename_i c
      refine .inr (.inr (.inl ⟨a, _, vs, rfl, rfl, ha, ?_, c.2.1, c.2.2.1, by rw [ra.length]; exact c.2.2.2, fun p o hp hd => q.newTup hs (ra.rep _) hp hd⟩))
      intro e; subst e; cases ra; exact c.1 rfl
    · exact q.elim
  · rename_i i k
    cases ry.int_inv
    split at q
    · rename_i xs hx
      split at q
      · rename_i c
        obtain ⟨a, vs, rfl, ha, ra⟩ := lst_rep' (ts := xs) hs rx (by simp only [lstOf', hx])
        exact .inr (.inr (.inr (.inl ⟨a, k, vs, rfl, rfl, ha, c.1, c.2.1, by rw [ra.length]; exact c.2.2, fun p hp => q.newLst hs (ra.rep _) hp⟩)))
      · exact q.elim
    · exact q.elim
  · rename_i xs k
    cases ry.int_inv
    split at q
    · rename_i c
      obtain ⟨a, vs, rfl, ha, ra⟩ := lst_rep' (ts := xs) hs rx rfl
      exact .inr (.inr (.inr (.inl ⟨a, k, vs, rfl, rfl, ha, c.1, c.2.1, by rw [ra.length]; exact c.2.2, fun p hp => q.newLst hs (ra.rep _) hp⟩)))
    · exact q.elim
  · exact q.elim
theorem le_mul {a b : Expr} {pos : Pos} {da db : DE} (ha : LE X W a da) (hb : LE X W b db) : LE X W (.BinOp a .Mult b pos) (dBin fMul da db) := le_bin od_mul (pe_op op_mul4 ha hb)
/-- - x -/
def fNeg : T → Sto → RE := fun x S => match x with
  | .int i => .ok (.int (-i)) S
  | _ => .bad
theorem le_neg {a : Expr} {pos : Pos} {da : DE} (ha : LE X W a da) : LE X W (.UnaryOp .USub a pos) (dUn fNeg da) := le_un (r := rU fun i => .int (-i)) (fun W σ H ρ av S x tx Q hs rx q => by
  unfold fNeg at q
  split at q
  · cases rx.int_inv
    exact ⟨_, rfl, q.now hs (.int _)⟩
  · exact q.elim) (pe_un un_neg ha)
end
end Dn

namespace Dn
open PySem PySem.Spec L2

/-! ### data -/
mutual
def T.dat : T → PyData
  | .non => .none
  | .bl b => .bool b
  | .int i => .int i
  | .str x => .str x
  | .tup ts => .tuple (T.dats ts)
  | .lst ts => .list (T.dats ts)
  | .nlst ts => .dict []
  | .flst ts => .list (T.dats ts)
  | .ktup ts => .tuple (T.dats ts)
  | .ref _ => .dict []
  | .dic _ => .dict []
def T.dats : List T → List PyData
  | [] => []
  | t :: ts => t.dat :: T.dats ts
end
theorem T.dats_map : ∀ ts : List T, T.dats ts = ts.map T.dat
  | [] => rfl
  | t :: ts => by rw [T.dats, T.dats_map ts]; rfl
/-- a list of the store as its items -/
def rd (S : Sto) : T → T
  | .ref i => match S[i]? with
    | some (.lst ts) => .lst ts
    | _ => .ref i
  | t => t
def dato (S : Sto) (t : T) : PyData := (rd S t).dat
abbrev fit (d : PyData) : Bool := SeqAt.shaped d

section
variable {K : PySem.W.Frag} {w : World} {H : Hp} {ρ av : List Addr}
mutual
theorem RepV.dp : ∀ {v : V} {t : T}, RepV K w H ρ av v t → t.dat.canLay0 = true → Dp K H v t.dat
  | _, _, .non, _ => .non
  | _, _, .bl b, _ => .bl b
  | _, _, .int b, _ => .int b
  | _, _, .str b, _ => .str b
  | _, _, .tup h _ r, c => .tup (.inl (.inr ⟨_, h⟩)) (RepVs.dp r (by simpa [T.dat, PyData.canLay0] using c))
  | _, _, .tupK h r, c => .tup (.inr h) (RepVs.dp r (by simpa [T.dat, PyData.canLay0] using c))
  | _, _, .lst h h1 h2 r, c => .lst (.inl (.inl h)) (RepVs.dp r (by simpa [T.dat, PyData.canLay0] using c))
  | _, _, .flst h r, c => .lst (h.elim (fun ⟨o, q⟩ => .inl (.inr ⟨o, q⟩)) .inr) (RepVs.dp r (by simpa [T.dat, PyData.canLay0] using c))
  | _, _, .ref h, c => by simp [T.dat, PyData.canLay0] at c
  | _, _, .dic h h1 h2 r, c => by simp [T.dat, PyData.canLay0] at c
  | _, _, .dicK h hx r, c => by simp [T.dat, PyData.canLay0] at c
theorem RepVs.dp : ∀ {v : List V} {t : List T}, RepVs K w H ρ av v t → PyData.canLayAll0 (T.dats t) = true → DpAll K H v (T.dats t)
  | _, _, .nil, _ => .nil
  | _, _, .cons r rs, c => by
    rw [T.dats, PyData.canLayAll0, Bool.and_eq_true] at c
    exact .cons (RepV.dp r c.1) (RepVs.dp rs c.2)
end
theorem lay_of_fit {d : PyData} (h : fit d = true) : d.canLay0 = true := SeqAt.canLay_of_shaped h
theorem RepV.dpo {S : Sto} {v : V} {t : T} (hs : RepS K w H ρ av S) (r : RepV K w H ρ av v t) (c : fit (dato S t) = true) : Dp K H v (dato S t) := by
  have c := lay_of_fit c
  cases t with
  | ref i =>
    cases r with
    | @ref a _ hi =>
      obtain ⟨o, ho, ro⟩ := hs.of_ref hi
      unfold dato rd at c ⊢
      simp only [ho] at c ⊢
      cases o with
      | lst us =>
        obtain ⟨vs, h1, h2⟩ := ro
        exact .lst (.inl (.inl h1)) (RepVs.dp h2 (by simpa [T.dat, PyData.canLay0] using c))
      | _ => simp [T.dat, PyData.canLay0] at c
  | _ => exact RepV.dp r c
end

/-! ### lowering -/
section
variable {X : DX} {W : WX}
def Low (X : DX) (W : WX) (d : DE) (t : TE) : Prop := ∀ σ H Q, liftE X W d σ H Q → t σ H Q
theorem le_of {d : DE} {t : TE} {e : Expr} (l : Low X W d t) (h : PE X e t) : LE X W e d := h.imp l
def dTest (d : DE) : DB := fun sl S => match d sl S with
  | .ok (.bl b) S' => .ok b S'
  | .ok _ _ => .bad
  | .exc c fs S' => .exc c fs S'
  | .bad => .bad
theorem GoodE.test {σ : L2.St} {H : Hp} {ρ av : List Addr} {Q : Bool → Hp → Prop} {r : RE} (g : GoodB X W σ H ρ av Q (match r with
  | .ok (.bl b) S' => .ok b S'
  | .ok _ _ => .bad
  | .exc c fs S' => .exc c fs S'
  | .bad => .bad)) : GoodE X W σ H ρ av (fun x H' => ∃ c, x = .bl c ∧ Q c H') r := by
  cases r with
  | ok t S' =>
    cases t with
    | bl b =>
      intro v H' ρ' e s r
      cases RepV.bl_inv (r : RepV X.K X.w H' ρ' av v (.bl b))
      exact ⟨b, rfl, g H' ρ' e s⟩
    | _ => exact g.elim
  | exc c fs S' => exact g
  | bad => exact g
theorem lt_of {d : DE} {t : TE} {e : Expr} (l : Low X W d t) (h : PT X e (tB t)) : LT X W e (dTest d) := h.imp fun σ H Q ⟨ρ, av, sl, S, hs, he, g⟩ => l σ H _ ⟨ρ, av, sl, S, hs, he, GoodE.test g⟩
theorem low_bin {r : R2} {f : T → T → Sto → RE} {da db : DE} (hf : OpD X r f) : Low X W (dBin f da db) (tOp r (liftE X W da) (liftE X W db)) := lift_bin hf
theorem low_id {d : DE} : Low X W d (liftE X W d) := fun _ _ _ q => q
/-- an expression whose value is a bool, as a test -/
theorem lt_val {d : DE} {e : Expr} (h : LE X W e d) (he : ∀ whole, isTrue e X.env whole = (do let v ← whole; standAt e.pos; holding [v] (truthy v)) := by intro _; rfl) : LT X W e (dTest d) := lt_of low_id (pt_val h he)

/-! ### comparisons -/
/-- == of what is no list, no tuple -/
def eqS : T → T → Option Bool
  | .non, .non => some true
  | .int i, .int j => some (decide (i = j))
  | .bl i, .bl j => some (decide (i = j))
  | .str i, .str j => some (decide (i = j))
  | _, _ => none
def fEq (neg : Bool) : T → T → Sto → RE := fun x y S => match eqS x y with
  | some b => .ok (.bl (if neg then !b else b)) S
  | none => if fit (dato S x) && fit (dato S y) then .ok (.bl (if neg then !(PyData.eqv (dato S x) (dato S y)) else PyData.eqv (dato S x) (dato S y))) S else .bad
def rEq2 (K : PySem.W.Frag) : R2 := fun x y H Q => rEq x y H Q ∨ rEqD K x y H Q
def rNe2 (K : PySem.W.Frag) : R2 := fun x y H Q => rNe x y H Q ∨ rNeD K x y H Q
theorem eqS_scal {K : PySem.W.Frag} {w : World} {H : Hp} {ρ av : List Addr} {x y : V} {tx ty : T} {b : Bool} (rx : RepV K w H ρ av x tx) (ry : RepV K w H ρ av y ty) (h : eqS tx ty = some b) : scal x y = true ∧ decide (x = y) = b := by
  unfold eqS at h
  split at h
  · cases rx.non_inv; cases ry.non_inv; cases h; exact ⟨rfl, by simp⟩
  · cases rx.int_inv; cases ry.int_inv; cases h; exact ⟨rfl, by simp⟩
  · cases rx.bl_inv; cases ry.bl_inv; cases h; exact ⟨rfl, by simp⟩
  · cases rx.str_inv; cases ry.str_inv; cases h; exact ⟨rfl, by simp⟩
  · cases h
theorem od_eq : OpD X (rEq2 X.K) (fEq false) := by
  intro W σ H ρ av S x y tx ty Q hs rx ry q
  unfold fEq at q
  cases e : eqS tx ty with
  | some b =>
    simp only [e, Bool.false_eq_true, if_false] at q
    obtain ⟨h1, h2⟩ := eqS_scal rx ry e
    exact .inl ⟨h1, by rw [h2]; exact q.now hs (.bl _)⟩
  | none =>
    simp only [e] at q
    split at q
    · rename_i c
      rw [Bool.and_eq_true] at c
      exact .inr ⟨_, _, rx.dpo hs c.1, ry.dpo hs c.2, c.1, c.2, q.now hs (.bl _)⟩
    · exact q.elim
theorem od_ne : OpD X (rNe2 X.K) (fEq true) := by
  intro W σ H ρ av S x y tx ty Q hs rx ry q
  unfold fEq at q
  cases e : eqS tx ty with
  | some b =>
    simp only [e, if_true] at q
    obtain ⟨h1, h2⟩ := eqS_scal rx ry e
    exact .inl ⟨h1, by rw [h2]; exact q.now hs (.bl _)⟩
  | none =>
    simp only [e] at q
    split at q
    · rename_i c
      rw [Bool.and_eq_true] at c
      exact .inr ⟨_, _, rx.dpo hs c.1, ry.dpo hs c.2, c.1, c.2, q.now hs (.bl _)⟩
    · exact q.elim
theorem hu64 {A : Around} (hu : A.units + 65 < cLine) : A.units + 64 < cLine := by omega
theorem or_eq (hu : X.A.units + 65 < cLine) : OpR X (compareOp .Eq) (rEq2 X.K) := op_eq.or (op_eqD (hu64 hu))
theorem or_ne (hu : X.A.units + 65 < cLine) : OpR X (compareOp .NotEq) (rNe2 X.K) := op_ne.or (op_neD (hu64 hu))

/-- < of ints, texts -/
def fLt (fi : Int → Int → Bool) (fs : List Nat → List Nat → Bool) : T → T → Sto → RE := fun x y S => match x, y with
  | .int i, .int j => .ok (.bl (fi i j)) S
  | .str a, .str b => .ok (.bl (fs a.cps.toList b.cps.toList)) S
  | _, _ => .bad
def rLt2 (fi : Int → Int → Bool) (fs : List Nat → List Nat → Bool) : R2 := fun x y H Q => rI0 (fun i j => .bl (fi i j)) x y H Q ∨ (∃ i j, x = .str i ∧ y = .str j ∧ Q (.bl (fs i.cps.toList j.cps.toList)) H)
theorem od_lt {fi : Int → Int → Bool} {fs : List Nat → List Nat → Bool} : OpD X (rLt2 fi fs) (fLt fi fs) := by
  intro W σ H ρ av S x y tx ty Q hs rx ry q
  unfold fLt at q
  split at q
  · cases rx.int_inv; cases ry.int_inv
    exact .inl ⟨_, _, rfl, rfl, q.now hs (.bl _)⟩
  · cases rx.str_inv; cases ry.str_inv
    exact .inr ⟨_, _, rfl, rfl, q.now hs (.bl _)⟩
  · exact q.elim
abbrev fLT := fLt (fun i j => decide (i < j)) (fun a b => decide (a < b))
abbrev fLE := fLt (fun i j => decide (i ≤ j)) (fun a b => !decide (b < a))
abbrev fGT := fLt (fun i j => decide (j < i)) (fun a b => decide (b < a))
abbrev fGE := fLt (fun i j => decide (j ≤ i)) (fun a b => !decide (a < b))
theorem or_lt : OpR X (compareOp .Lt) (rLt2 (fun i j => decide (i < j)) (fun a b => decide (a < b))) := op_lt.or op_lt_str
theorem or_le : OpR X (compareOp .LtE) (rLt2 (fun i j => decide (i ≤ j)) (fun a b => !decide (b < a))) := op_le.or op_le_str
theorem or_gt : OpR X (compareOp .Gt) (rLt2 (fun i j => decide (j < i)) (fun a b => decide (b < a))) := op_gt.or op_gt_str
theorem or_ge : OpR X (compareOp .GtE) (rLt2 (fun i j => decide (j ≤ i)) (fun a b => !decide (a < b))) := op_ge.or op_ge_str

/-! in -/
def rInDT (K : PySem.W.Frag) (neg : Bool) : R2 := fun x y H Q => ∃ d ds, Dp K H x d ∧ (Dp K H y (.list ds) ∨ Dp K H y (.tuple ds)) ∧ SeqAt.shaped d = true ∧ SeqAt.shaped (.list ds) = true ∧ Q (.bl (if neg then !(ds.any fun z => PyData.eqv z d) else ds.any fun z => PyData.eqv z d)) H
theorem op_inDT (hu : X.A.units + 65 < cLine) : OpR X (compareOp .In) (rInDT X.K false) := by
  intro pins s σ H x y v u Q I rx ry h
  obtain ⟨d, ds, hd, he, sd, se, q⟩ := h
  obtain ⟨as, r1⟩ := Dp.reads I d x v hd rx
  rcases he with he | he
  · obtain ⟨bs, r2⟩ := Dp.reads I (.list ds) y u he ry
    exact SeqAt.in_list_reads r2 r1 (SeqAt.canLay_of_shaped se) (SeqAt.canLay_of_shaped sd) (PyProof.Rows.room_in_shaped sd hu) ⟨.bl _, H, I, rfl, q⟩
  · obtain ⟨bs, r2⟩ := Dp.reads I (.tuple ds) y u he ry
    exact SeqAt.in_tuple_reads r2 r1 (SeqAt.canLay_of_shaped se) (SeqAt.canLay_of_shaped sd) (PyProof.Rows.room_in_shaped sd hu) ⟨.bl _, H, I, rfl, q⟩
theorem op_notInDT (hu : X.A.units + 65 < cLine) : OpR X (compareOp .NotIn) (rInDT X.K true) := by
  intro pins s σ H x y v u Q I rx ry h
  obtain ⟨d, ds, hd, he, sd, se, q⟩ := h
  obtain ⟨as, r1⟩ := Dp.reads I d x v hd rx
  rcases he with he | he
  · obtain ⟨bs, r2⟩ := Dp.reads I (.list ds) y u he ry
    exact SeqAt.notIn_list_reads r2 r1 (SeqAt.canLay_of_shaped se) (SeqAt.canLay_of_shaped sd) (PyProof.Rows.room_in_shaped sd hu) ⟨.bl _, H, I, rfl, q⟩
  · obtain ⟨bs, r2⟩ := Dp.reads I (.tuple ds) y u he ry
    exact SeqAt.notIn_tuple_reads r2 r1 (SeqAt.canLay_of_shaped se) (SeqAt.canLay_of_shaped sd) (PyProof.Rows.room_in_shaped sd hu) ⟨.bl _, H, I, rfl, q⟩
/-- keys -/
def keyT : T → Option Key
  | .int i => some (.inl i)
  | .str x => some (.inr x)
  | _ => none
def keysT : List T → Option (List Key)
  | [] => some []
  | t :: ts => match keyT t, keysT ts with
    | some k, some ks => some (k :: ks)
    | _, _ => none
theorem keyT_rep {K : PySem.W.Frag} {w : World} {H : Hp} {ρ av : List Addr} {v : V} {t : T} {k : Key} (r : RepV K w H ρ av v t) (h : keyT t = some k) : v = kV k := by
  cases r <;> first | (cases h; rfl) | cases h
theorem keysT_rep {K : PySem.W.Frag} {w : World} {H : Hp} {ρ av : List Addr} : ∀ {vs : List V} {ts : List T} {ks : List Key}, RepVs K w H ρ av vs ts → keysT ts = some ks → vs = ks.map kV
  | _, _, _, .nil, h => by cases h; rfl
  | _, _, ks, .cons (t := t) (ts := ts) r rs, h => by
    unfold keysT at h
    cases e1 : keyT t with
    | none => simp only [e1] at h; cases h
    | some k =>
      cases e2 : keysT ts with
      | none => simp only [e1, e2] at h; cases h
      | some ks' =>
        simp only [e1, e2] at h
        cases h
        rw [keyT_rep r e1, keysT_rep rs e2]; rfl
/-- a table's value at a key -/
def getT {κ : Type} [DecidableEq κ] (kvs : List (κ × T)) (k : κ) : Option T := (kvs.find? fun kv => decide (kv.1 = k)).map (·.2)
theorem getT_rep {κ : Type} [DecidableEq κ] {K : PySem.W.Frag} {w : World} {H : Hp} {ρ av : List Addr} {k : κ} : ∀ {vs : List (κ × V)} {ts : List (κ × T)}, RepKd K w H ρ av vs ts → (∀ t, getT ts k = some t → ∃ v, valV vs k = some v ∧ RepV K w H ρ av v t) ∧ (getT ts k = none → valV vs k = none)
  | _, _, .nil => ⟨fun t h => by simp [getT] at h, fun _ => rfl⟩
  | p :: _, q :: _, .cons r rs => by
    obtain ⟨r1, r2⟩ := r
    have ih := getT_rep (k := k) rs
    by_cases e : p.1 = k
    · have e' : q.1 = k := r1 ▸ e
      have g1 : ∀ l : List (κ × T), getT (q :: l) k = some q.2 := fun l => by simp [getT, List.find?_cons, e']
      exact ⟨fun t h => ⟨p.2, valV_pos e, by rw [g1] at h; cases h; exact r2⟩, fun h => by rw [g1] at h; cases h⟩
    · have e' : ¬ q.1 = k := r1 ▸ e
      have g1 : ∀ l : List (κ × T), getT (q :: l) k = getT l k := fun l => by simp [getT, List.find?_cons, e']
      rw [g1, valV_neg e]
      exact ih
theorem RepKs.kd {K : PySem.W.Frag} {w : World} {H : Hp} {ρ av : List Addr} : ∀ {vs : List (Key × V)} {ts : List (Key × T)}, RepKs K w H ρ av vs ts → RepKd K w H ρ av vs ts
  | _, _, .nil => .nil
  | _, _, .cons r rs => .cons ⟨rfl, r⟩ (RepKs.kd rs)
/-- what a dict holds at a key; none: it is no dict, or no key of it -/
def dget (S : Sto) (d k : T) : Option (Option T) := match d with
  | .dic kvs => match k with
    | .str x => some (getT kvs (.inr x))
    | .int i => if !kvs.isEmpty && kvs.all (fun p => p.1.isLeft) then some (getT kvs (.inl i)) else none
    | _ => none
  | .ref i => match S[i]? with
    | some (.dK kvs) => (keyT k).map fun q => getT kvs q
    | _ => none
  | _ => none
/-- .. as it lies: the answer is there, of a table that is tracked or written -/
inductive DLook (K : PySem.W.Frag) (w : World) (H : Hp) (a : Addr) (y : V) : Option V → Prop
  | got {o} (h : DGet H a y o) : DLook K w H a y o
  | kd {es n z v u} (D : KDict K w a es n) (e : y = .str z) (h : PySem.W.nsIn K a z = some (some u)) (r : RelV v u) : DLook K w H a y (some v)
  | kn {es n z} (D : KDict K w a es n) (e : y = .str z) (h : PySem.W.nsIn K a z = some none) : DLook K w H a y none
theorem dget_rep {K : PySem.W.Frag} {w : World} {H : Hp} {ρ av : List Addr} {S : Sto} {d k : V} {td tk : T} {o : Option T} (hs : RepS K w H ρ av S) (rd : RepV K w H ρ av d td) (rk : RepV K w H ρ av k tk) (h : dget S td tk = some o) :
    ∃ a ov, d = .ref a ∧ DLook K w H a k ov ∧ (∀ t, o = some t → ∃ v, ov = some v ∧ RepV K w H ρ av v t) ∧ (o = none → ov = none) := by
  unfold dget at h
  cases rd with
  | @dic a kvs us hh h1 h2 r =>
    have key : ∀ q : Key, k = kV q → o = getT us q → ∃ a' ov, V.ref a = .ref a' ∧ DLook K w H a' k ov ∧ (∀ t, o = some t → ∃ v, ov = some v ∧ RepV K w H ρ av v t) ∧ (o = none → ov = none) := by
      intro q ek eo
      have g := getT_rep (k := q) r.kd
      refine ⟨a, valV kvs q, rfl, .got (.inl ⟨kvs, q, hh, ek, rfl⟩), fun t ht => ?_, fun hn => ?_⟩
      · obtain ⟨v, h1, h2⟩ := g.1 t (by rw [← eo]; exact ht); exact ⟨v, h1, h2⟩
      · exact g.2 (by rw [← eo]; exact hn)
    cases rk with
    | str x => simp only at h; cases h; exact key (.inr x) rfl rfl
    | int i =>
      simp only at h
      split at h
      · cases h; exact key (.inl i) rfl rfl
      · cases h
    | _ => cases h
  | @dicK a kvs us hh hx r =>
    obtain ⟨es, n, D, hv⟩ := hh
    cases rk with
    | str x =>
      simp only at h; cases h
      have g := getT_rep (k := (Sum.inr x : Key)) r.kd
      rcases hv x with ⟨v, u, e1, e2, e3⟩ | ⟨e1, e2⟩
      · refine ⟨a, some v, rfl, .kd D rfl e2 e3, fun t ht => ?_, fun hn => ?_⟩
        · obtain ⟨v', q1, q2⟩ := g.1 t ht
          rw [e1] at q1; cases q1
          exact ⟨v, rfl, q2⟩
        · have := g.2 hn; rw [e1] at this; cases this
      · refine ⟨a, none, rfl, .kn D rfl e2, fun t ht => ?_, fun _ => rfl⟩
        obtain ⟨v', q1, q2⟩ := g.1 t ht
        rw [e1] at q1; cases q1
    | int i =>
      simp only at h
      split at h
      · rename_i c
        exfalso
        cases r with
        | nil => simp at c
        | cons q qs =>
          obtain ⟨z, hz⟩ := hx _ List.mem_cons_self
          simp only at hz
          subst hz
          simp at c
      · cases h
    | _ => cases h
  | @ref a i hi =>
    obtain ⟨ob, ho, ro⟩ := hs.of_ref hi
    simp only [ho] at h
    cases ob with
    | dK us =>
      obtain ⟨kvs, h1, h2⟩ := ro
      simp only at h
      obtain ⟨q, e1, e2⟩ := Option.map_eq_some_iff.mp h
      have g := getT_rep (k := q) h2
      refine ⟨a, valV kvs q, rfl, .got (.inl ⟨kvs, q, .inl h1, keyT_rep rk e1, rfl⟩), fun t ht => ?_, fun hn => ?_⟩
      · obtain ⟨v, h1, h2⟩ := g.1 t (by rw [e2]; exact ht); exact ⟨v, h1, h2⟩
      · exact g.2 (by rw [e2]; exact hn)
    | _ => cases h
  | _ => cases h
end
end Dn

namespace Dn
open PySem PySem.Spec L2
section
variable {X : DX} {W : WX} {pins : List (Addr × Obj)} {σ : L2.St} {H : Hp} {s : Shared} {a : Addr} {y v : V} {u r : Value} {o : Option V} {A : Around} {E : Value → Shared → Prop}
/-! ### dicts asked -/
theorem l_in {Q : Value → Shared → Prop} (hu : A.units + 1 < cLine) (I : Inv X pins σ H s) (g : DLook X.K X.w H a y o) (ry : RelV y u) (h : ∀ s', Inv X pins σ H s' → Q (.bool o.isSome) s') : wpAny (model X.prog X.w) A (compareOp .In u (.ref a)) Q E s := by
  cases g with
  | got g => exact d_in hu I g ry h
  | kd D e h1 r1 =>
    subst e
    obtain ⟨t, rfl⟩ := ry
    refine wpAny_in_of (PySem.strKind_is X.prog X.w _ t) D.low (PySem.W.mapOf_K (prog := X.prog) I.kIn D.at_ D.lit) ?_
    rw [PySem.W.find_K D.at_ h1]
    exact h _ (I.tok _)
  | kn D e h1 =>
    subst e
    obtain ⟨t, rfl⟩ := ry
    refine wpAny_in_of (PySem.strKind_is X.prog X.w _ t) D.low (PySem.W.mapOf_K (prog := X.prog) I.kIn D.at_ D.lit) ?_
    rw [PySem.W.find_K D.at_ h1]
    exact h _ (I.tok _)
theorem l_notIn {Q : Value → Shared → Prop} (hu : A.units + 1 < cLine) (I : Inv X pins σ H s) (g : DLook X.K X.w H a y o) (ry : RelV y u) (h : ∀ s', Inv X pins σ H s' → Q (.bool (!o.isSome)) s') : wpAny (model X.prog X.w) A (compareOp .NotIn u (.ref a)) Q E s := by
  cases g with
  | got g => exact d_notIn hu I g ry h
  | kd D e h1 r1 =>
    subst e
    obtain ⟨t, rfl⟩ := ry
    refine wpAny_notIn_of (PySem.strKind_is X.prog X.w _ t) D.low (PySem.W.mapOf_K (prog := X.prog) I.kIn D.at_ D.lit) ?_
    rw [PySem.W.find_K D.at_ h1]
    exact h _ (I.tok _)
  | kn D e h1 =>
    subst e
    obtain ⟨t, rfl⟩ := ry
    refine wpAny_notIn_of (PySem.strKind_is X.prog X.w _ t) D.low (PySem.W.mapOf_K (prog := X.prog) I.kIn D.at_ D.lit) ?_
    rw [PySem.W.find_K D.at_ h1]
    exact h _ (I.tok _)
end
section
variable {X : DX} {W : WX}
def rDLIn (K : PySem.W.Frag) (w : World) (neg : Bool) : R2 := fun y x H Q => ∃ a o, x = .ref a ∧ DLook K w H a y o ∧ Q (.bl (if neg then !o.isSome else o.isSome)) H
theorem op_dlin (hu : X.A.units + 1 < cLine) : OpR X (compareOp .In) (rDLIn X.K X.w false) := by
  intro pins s σ H x y v u Q I rx ry ⟨a, o, e, g, q⟩
  subst e
  obtain rfl : u = Value.ref a := ry
  exact l_in hu I g rx fun s' I' => ⟨.bl o.isSome, H, I', rfl, q⟩
theorem op_dlnotin (hu : X.A.units + 1 < cLine) : OpR X (compareOp .NotIn) (rDLIn X.K X.w true) := by
  intro pins s σ H x y v u Q I rx ry ⟨a, o, e, g, q⟩
  subst e
  obtain rfl : u = Value.ref a := ry
  exact l_notIn hu I g rx fun s' I' => ⟨.bl (!o.isSome), H, I', rfl, q⟩
/-- a sign, a text in a text -/
def inStr (x z : Str) : Bool := match x.cps.toList with
  | [c] => decide (c ∈ z.cps.toList)
  | _ => !(Builtin.Str.occurrences z x 0 z.length 1).isEmpty
def fIn (neg : Bool) : T → T → Sto → RE := fun x y S => match x, y with
  | .str x, .str z => .ok (.bl (if neg then !inStr x z else inStr x z)) S
  | x, y => match seqOf S y with
    | some ts => if fit (dato S x) && fit (.list (T.dats ts)) then .ok (.bl (if neg then !((T.dats ts).any fun z => PyData.eqv z (dato S x)) else (T.dats ts).any fun z => PyData.eqv z (dato S x))) S else .bad
    | none => match dget S y x with
      | some o => .ok (.bl (if neg then !o.isSome else o.isSome)) S
      | none => .bad
def rIn4 (K : PySem.W.Frag) (w : World) (neg : Bool) : R2 := fun x y H Q =>
  (∃ i j, x = .str i ∧ y = .str j ∧ Q (.bl (if neg then !(!(Builtin.Str.occurrences j i 0 j.length 1).isEmpty) else !(Builtin.Str.occurrences j i 0 j.length 1).isEmpty)) H) ∨
  (∃ (c : Nat) (z : Str), x = .str ⟨#[c]⟩ ∧ y = .str z ∧ Q (.bl (if neg then !decide (c ∈ z.cps.toList) else decide (c ∈ z.cps.toList))) H) ∨ rInDT K neg x y H Q ∨ rDLIn K w neg x y H Q
theorem hu1 {A : Around} (hu : A.units + 65 < cLine) : A.units + 1 < cLine := by omega
theorem or_in (hu : X.A.units + 65 < cLine) : OpR X (compareOp .In) (rIn4 X.K X.w false) := op_in_str.or (op_in_sign.or ((op_inDT hu).or (op_dlin (hu1 hu))))
theorem or_notIn (hu : X.A.units + 65 < cLine) : OpR X (compareOp .NotIn) (rIn4 X.K X.w true) := op_notIn_str.or (op_notIn_sign.or ((op_notInDT hu).or (op_dlnotin (hu1 hu))))
theorem od_in {neg : Bool} : OpD X (rIn4 X.K X.w neg) (fIn neg) := by
  intro W σ H ρ av S x y tx ty Q hs rx ry q
  unfold fIn at q
  split at q
  · rename_i x z
    cases rx.str_inv; cases ry.str_inv
    cases hx : x.cps.toList with
    | nil => simp only [inStr, hx] at q; exact .inl ⟨x, z, rfl, rfl, q.now hs (.bl _)⟩
    | cons c r =>
      cases r with
      | nil =>
        simp only [inStr, hx] at q
        have e : x = ⟨#[c]⟩ := by
          cases x with | mk cps =>
          simp only at hx
          congr
          exact Array.ext' hx
        subst e
        exact .inr (.inl ⟨c, z, rfl, rfl, q.now hs (.bl _)⟩)
      | cons d r' => simp only [inStr, hx] at q; exact .inl ⟨x, z, rfl, rfl, q.now hs (.bl _)⟩
  · split at q
    · rename_i ts hts
      split at q
      · rename_i c
        rw [Bool.and_eq_true] at c
        have hq : ∀ P : Prop, (Q (.bl (if neg then !((T.dats ts).any fun z => PyData.eqv z (dato S tx)) else (T.dats ts).any fun z => PyData.eqv z (dato S tx))) H → P) → P := fun P f => f (q.now hs (.bl _))
        obtain ⟨a, vs, rfl, hq2, rs⟩ := seq_rep hs ry hts
        have dl : DpAll X.K H vs (T.dats ts) := rs.dp (by
          have := lay_of_fit c.2
          simpa [PyData.canLay0] using this)
        exact .inr (.inr (.inl ⟨_, T.dats ts, rx.dpo hs c.1, hq2.imp (fun h => .lst h dl) (fun h => .tup h dl), c.1, c.2, q.now hs (.bl _)⟩))
      · exact q.elim
    · split at q
      · rename_i o ho
        obtain ⟨a, ov, rfl, g, h1, h2⟩ := dget_rep hs ry rx ho
        have e : ov.isSome = o.isSome := by
          cases o with
          | none => rw [h2 rfl]; rfl
          | some t => obtain ⟨v, e, _⟩ := h1 t rfl; rw [e]; rfl
        exact .inr (.inr (.inr ⟨a, ov, rfl, g, by rw [e]; exact q.now hs (.bl _)⟩))
      · exact q.elim

/-! is None, is a bool -/
def fIs (neg : Bool) : T → T → Sto → RE := fun x y S => match x, y with
  | .non, .non => .ok (.bl (!neg)) S
  | .bl a, .bl b => .ok (.bl (if neg then !decide (a = b) else decide (a = b))) S
  | .nlst _, _ => .bad
  | _, .non => .ok (.bl neg) S
  | _, _ => .bad
def rIs2 (neg : Bool) : R2 := fun x y H Q => (y = .non ∧ Q (.bl (if neg then !decide (x = .non) else decide (x = .non))) H) ∨ ∃ a b : Bool, x = .bl a ∧ y = .bl b ∧ Q (.bl (if neg then !decide (a = b) else decide (a = b))) H
theorem or_is : OpR X (compareOp .Is) (rIs2 false) := OpR.or op_isN op_isBl
theorem or_isnot : OpR X (compareOp .IsNot) (rIs2 true) := OpR.or op_notN op_notBl
theorem od_is {neg : Bool} : OpD X (rIs2 neg) (fIs neg) := by
  intro W σ H ρ av S x y tx ty Q hs rx ry q
  unfold fIs at q
  split at q
  · cases rx.non_inv; cases ry.non_inv
    refine .inl ⟨rfl, ?_⟩
    have := q.now hs (.bl _)
    cases neg <;> simpa using this
  · cases rx.bl_inv; cases ry.bl_inv
    exact .inr ⟨_, _, rfl, rfl, q.now hs (.bl _)⟩
  · exact q.elim
  · cases ry.non_inv
    refine .inl ⟨rfl, ?_⟩
    have ne : x ≠ .non := fun e => by
      subst e
      cases rx
      simp_all
    have := q.now hs (.bl _)
    rw [decide_eq_false ne]
    cases neg <;> simpa using this
  · exact q.elim

/-! ### comparisons as values, as tests -/
theorem le_cmp {op : CmpOp} {r : R2} {f : T → T → Sto → RE} {a b : Expr} {pos : Pos} {da db : DE} (ho : OpR X (compareOp op) r) (hf : OpD X r f) (ha : LE X W a da) (hb : LE X W b db) (hm : behindInMarks op b = false := by first | exact nomark _ | with_unfolding_all rfl) :
    LE X W (.Compare a [op] [b] pos) (dBin f da db) := le_bin hf (pe_cmpR ho ha hb hm)
theorem lt_cmp {op : CmpOp} {r : R2} {f : T → T → Sto → RE} {a b : Expr} {pos : Pos} {da db : DE} (ho : OpR X (compareOp op) r) (hf : OpD X r f) (ha : LE X W a da) (hb : LE X W b db) (hm : behindInMarks op b = false := by first | exact nomark _ | with_unfolding_all rfl) :
    LT X W (.Compare a [op] [b] pos) (dTest (dBin f da db)) := lt_of (low_bin hf) (pt_cmpR ho ha hb hm)
/-- a < b < c -/
def dChain (f g : T → T → Sto → RE) (da db dc : DE) : DE := fun sl S => (da sl S).bind fun x S1 => (db sl S1).bind fun y S2 => (f (fz x) (fz y) S2).bind fun z S3 => match z with
  | .bl true => (dc sl S3).bind fun u S4 => g (fz y) (fz u) S4
  | .bl false => .ok (.bl false) S3
  | _ => .bad
theorem low_chain {r r' : R2} {f g : T → T → Sto → RE} {da db dc : DE} (hf : OpD X r f) (hg : OpD X r' g) : Low X W (dChain f g da db dc) (tChain r r' (liftE X W da) (liftE X W db) (liftE X W dc)) := by
  intro σ H Q ⟨ρ, av, sl, S, hs, he, h⟩
  refine ⟨ρ, av, sl, S, hs, he, GoodE.step h fun t S1 _ v H1 ρ1 e1 s1 r1 g1 => ⟨ρ1, av, sl, S1, s1, he.ext e1, GoodE.step g1 fun t2 S2 _ v2 H2 ρ2 e2 s2 r2 g2 => ?_⟩⟩
  refine hf W σ H2 ρ2 av S2 v v2 _ _ _ s2 (r1.toV.ext e2) r2.toV (GoodE.step g2 fun z S3 _ vz H3 ρ3 e3 s3 r3 g3 => ?_)
  split at g3
  · cases RepV.bl_inv (r3 : RepV X.K X.w H3 ρ3 av vz (.bl true))
    refine ⟨true, rfl, ?_⟩
    rw [if_pos rfl]
    refine ⟨ρ3, av, sl, S3, s3, ((he.ext e1).ext e2).ext e3, GoodE.step g3 fun u S4 _ vu H4 ρ4 e4 s4 r4 g4 => ?_⟩
    exact hg W σ H4 ρ4 av S4 v2 vu _ _ Q s4 ((r2.toV.ext e3).ext e4) r4.toV g4
  · cases RepV.bl_inv (r3 : RepV X.K X.w H3 ρ3 av vz (.bl false))
    refine ⟨false, rfl, ?_⟩
    rw [if_neg Bool.false_ne_true]
    exact g3.now s3 (.bl false)
  · exact g3.elim
theorem le_chain {op op' : CmpOp} {r r' : R2} {f g : T → T → Sto → RE} {a b c : Expr} {pos : Pos} {da db dc : DE} (ho : OpR X (compareOp op) r) (hf : OpD X r f) (ho' : OpR X (compareOp op') r') (hg : OpD X r' g) (ha : LE X W a da) (hb : LE X W b db) (hc : LE X W c dc)
    (hm : lastMarks [op, op'] [b, c] = false := by with_unfolding_all rfl) : LE X W (.Compare a [op, op'] [b, c] pos) (dChain f g da db dc) := le_of (low_chain hf hg) (pe_chain ho ho' ha hb hc hm)
theorem lt_chain {op op' : CmpOp} {r r' : R2} {f g : T → T → Sto → RE} {a b c : Expr} {pos : Pos} {da db dc : DE} (ho : OpR X (compareOp op) r) (hf : OpD X r f) (ho' : OpR X (compareOp op') r') (hg : OpD X r' g) (ha : LE X W a da) (hb : LE X W b db) (hc : LE X W c dc)
    (hm : lastMarks [op, op'] [b, c] = false := by with_unfolding_all rfl) : LT X W (.Compare a [op, op'] [b, c] pos) (dTest (dChain f g da db dc)) := lt_of (low_chain hf hg) (pt_chain ho ho' ha hb hc hm)

/-! ### and, or, not, .. if .. else -/
abbrev LW (X : DX) (W : WX) (e : Expr) (d : DB) : Prop := PW X e (liftB X W d)
def RB.bind (r : RB) (f : Bool → Sto → RB) : RB := match r with
  | .ok b S => f b S
  | .exc c fs S => .exc c fs S
  | .bad => .bad
theorem GoodB.step {σ : L2.St} {H : Hp} {ρ av : List Addr} {Q : Bool → Hp → Prop} {r : RB} {f : Bool → Sto → RB} {Q1 : Bool → Hp → Prop} (g : GoodB X W σ H ρ av Q (r.bind f))
    (h : ∀ b S1, ∀ H1 ρ1, Ext H ρ H1 ρ1 → RepS X.K X.w H1 ρ1 av S1 → GoodB X W σ H1 ρ1 av Q (f b S1) → Q1 b H1) : GoodB X W σ H ρ av Q1 r := by
  cases r with
  | ok b S1 =>
    intro H1 ρ1 e s
    refine h b S1 H1 ρ1 e s ?_
    have g' : GoodB X W σ H ρ av Q (f b S1) := g
    revert g'
    cases f b S1 with
    | ok t2 S2 => exact fun g' H2 ρ2 e2 s2 => g' H2 ρ2 (e.trans e2) s2
    | exc c fs S2 => exact fun g' cls dd H2 ρ2 e2 s2 r2 => g' cls dd H2 ρ2 (e.trans e2) s2 r2
    | bad => exact fun g' => g'
  | exc c fs S1 => exact g
  | bad => exact g.elim
def dAnd (a b : DB) : DB := fun sl S => (a sl S).bind fun c S1 => if c then b sl S1 else .ok false S1
def dOr (a b : DB) : DB := fun sl S => (a sl S).bind fun c S1 => if c then .ok true S1 else b sl S1
def dNot (a : DB) : DB := fun sl S => (a sl S).bind fun c S1 => .ok (!c) S1
theorem lw_and1 {a : Expr} {pos : Pos} {da : DB} (ha : LT X W a da) : LW X W (.BoolOp .And [a] pos) da := pw_and1 ha
theorem lw_or1 {a : Expr} {pos : Pos} {da : DB} (ha : LT X W a da) : LW X W (.BoolOp .Or [a] pos) da := pw_or1 ha
theorem lw_and {a b : Expr} {rest : List Expr} {pos : Pos} {da db : DB} (ha : LT X W a da) (hb : LW X W (.BoolOp .And (b :: rest) pos) db) : LW X W (.BoolOp .And (a :: b :: rest) pos) (dAnd da db) :=
  (pw_and ha hb).imp fun σ H Q ⟨ρ, av, sl, S, hs, he, g⟩ => ⟨ρ, av, sl, S, hs, he, GoodB.step g fun c S1 H1 ρ1 e1 s1 g1 => by
    cases c with
    | true => rw [if_pos rfl]; exact ⟨ρ1, av, sl, S1, s1, he.ext e1, g1⟩
    | false => rw [if_neg Bool.false_ne_true]; exact g1 H1 ρ1 (Ext.refl _ _) s1⟩
theorem lw_or {a b : Expr} {rest : List Expr} {pos : Pos} {da db : DB} (ha : LT X W a da) (hb : LW X W (.BoolOp .Or (b :: rest) pos) db) : LW X W (.BoolOp .Or (a :: b :: rest) pos) (dOr da db) :=
  (pw_or ha hb).imp fun σ H Q ⟨ρ, av, sl, S, hs, he, g⟩ => ⟨ρ, av, sl, S, hs, he, GoodB.step g fun c S1 H1 ρ1 e1 s1 g1 => by
    cases c with
    | true => rw [if_pos rfl]; exact g1 H1 ρ1 (Ext.refl _ _) s1
    | false => rw [if_neg Bool.false_ne_true]; exact ⟨ρ1, av, sl, S1, s1, he.ext e1, g1⟩⟩
theorem lt_w {e : Expr} {d : DB} (h : LW X W e d) : LT X W e d := h.pt
theorem lt_not {a : Expr} {pos : Pos} {da : DB} (ha : LT X W a da) : LT X W (.UnaryOp .Not a pos) (dNot da) :=
  (pt_not ha).imp fun σ H Q ⟨ρ, av, sl, S, hs, he, g⟩ => ⟨ρ, av, sl, S, hs, he, GoodB.step g fun c S1 H1 ρ1 e1 s1 g1 => g1 H1 ρ1 (Ext.refl _ _) s1⟩
/-- .. as values (of bools) -/
def dAndV (a b : DE) : DE := fun sl S => (a sl S).bind fun x S1 => match x with
  | .bl true => b sl S1
  | .bl false => .ok (.bl false) S1
  | _ => .bad
def dOrV (a b : DE) : DE := fun sl S => (a sl S).bind fun x S1 => match x with
  | .bl true => .ok (.bl true) S1
  | .bl false => b sl S1
  | _ => .bad
def dNotV (a : DE) : DE := fun sl S => (a sl S).bind fun x S1 => match x with
  | .bl b => .ok (.bl (!b)) S1
  | _ => .bad
theorem le_one {op : BoolOp} {a : Expr} {pos : Pos} {da : DE} (h : LE X W a da) : LE X W (.BoolOp op [a] pos) da := pe_one h
theorem le_andV {a b : Expr} {rest : List Expr} {pos : Pos} {da db : DE} (ha : LE X W a da) (hb : LE X W (.BoolOp .And (b :: rest) pos) db) : LE X W (.BoolOp .And (a :: b :: rest) pos) (dAndV da db) :=
  (pe_and ha hb).imp fun σ H Q ⟨ρ, av, sl, S, hs, he, g⟩ => ⟨ρ, av, sl, S, hs, he, GoodE.step g fun t S1 _ v H1 ρ1 e1 s1 r1 g1 => by
    split at g1
    · cases RepV.bl_inv (r1 : RepV X.K X.w H1 ρ1 av v (.bl true))
      exact ⟨true, rfl, by rw [if_pos rfl]; exact ⟨ρ1, av, sl, S1, s1, he.ext e1, g1⟩⟩
    · cases RepV.bl_inv (r1 : RepV X.K X.w H1 ρ1 av v (.bl false))
      exact ⟨false, rfl, by rw [if_neg Bool.false_ne_true]; exact g1.now s1 (.bl false)⟩
    · exact g1.elim⟩
theorem le_orV {a b : Expr} {rest : List Expr} {pos : Pos} {da db : DE} (ha : LE X W a da) (hb : LE X W (.BoolOp .Or (b :: rest) pos) db) : LE X W (.BoolOp .Or (a :: b :: rest) pos) (dOrV da db) :=
  (pe_or ha hb).imp fun σ H Q ⟨ρ, av, sl, S, hs, he, g⟩ => ⟨ρ, av, sl, S, hs, he, GoodE.step g fun t S1 _ v H1 ρ1 e1 s1 r1 g1 => by
    split at g1
    · cases RepV.bl_inv (r1 : RepV X.K X.w H1 ρ1 av v (.bl true))
      exact ⟨true, rfl, by rw [if_pos rfl]; exact g1.now s1 (.bl true)⟩
    · cases RepV.bl_inv (r1 : RepV X.K X.w H1 ρ1 av v (.bl false))
      exact ⟨false, rfl, by rw [if_neg Bool.false_ne_true]; exact ⟨ρ1, av, sl, S1, s1, he.ext e1, g1⟩⟩
    · exact g1.elim⟩
theorem le_notV {a : Expr} {pos : Pos} {da : DE} (ha : LE X W a da) : LE X W (.UnaryOp .Not a pos) (dNotV da) :=
  (pe_not ha).imp fun σ H Q ⟨ρ, av, sl, S, hs, he, g⟩ => ⟨ρ, av, sl, S, hs, he, GoodE.step g fun t S1 _ v H1 ρ1 e1 s1 r1 g1 => by
    split at g1
    · rename_i b _
      cases RepV.bl_inv (r1 : RepV X.K X.w H1 ρ1 av v (.bl b))
      exact ⟨b, rfl, g1.now s1 (.bl _)⟩
    · exact g1.elim⟩
def RB.bindE (r : RB) (f : Bool → Sto → RE) : RE := match r with
  | .ok b S => f b S
  | .exc c fs S => .exc c fs S
  | .bad => .bad
theorem GoodE.ext {σ : L2.St} {H H1 : Hp} {ρ ρ1 av : List Addr} {Q : VK} {r : RE} (e : Ext H ρ H1 ρ1) (g : GoodE X W σ H ρ av Q r) : GoodE X W σ H1 ρ1 av Q r := by
  cases r with
  | ok t2 S2 => exact fun v2 H2 ρ2 e2 s2 r2 => g v2 H2 ρ2 (e.trans e2) s2 (r2.back e)
  | exc c fs S2 => exact fun cls dd H2 ρ2 e2 s2 r2 => g cls dd H2 ρ2 (e.trans e2) s2 r2
  | bad => exact g
theorem GoodB.stepE {σ : L2.St} {H : Hp} {ρ av : List Addr} {Q : VK} {r : RB} {f : Bool → Sto → RE} {Q1 : Bool → Hp → Prop} (g : GoodE X W σ H ρ av Q (r.bindE f))
    (h : ∀ b S1, ∀ H1 ρ1, Ext H ρ H1 ρ1 → RepS X.K X.w H1 ρ1 av S1 → GoodE X W σ H1 ρ1 av Q (f b S1) → Q1 b H1) : GoodB X W σ H ρ av Q1 r := by
  cases r with
  | ok b S1 => exact fun H1 ρ1 e s => h b S1 H1 ρ1 e s (GoodE.ext e g)
  | exc c fs S1 => exact g
  | bad => exact g.elim
def dIfE (c : DB) (a b : DE) : DE := fun sl S => (c sl S).bindE fun k S1 => if k then a sl S1 else b sl S1
theorem le_ifE {c a b : Expr} {pos : Pos} {dc : DB} {da db : DE} (hc : LT X W c dc) (ha : LE X W a da) (hb : LE X W b db) : LE X W (.IfExp c a b pos) (dIfE dc da db) :=
  (pe_ifExp hc ha hb).imp fun σ H Q ⟨ρ, av, sl, S, hs, he, g⟩ => ⟨ρ, av, sl, S, hs, he, GoodB.stepE g fun k S1 H1 ρ1 e1 s1 g1 => by
    cases k with
    | true => rw [if_pos rfl]; exact ⟨ρ1, av, sl, S1, s1, he.ext e1, g1⟩
    | false => rw [if_neg Bool.false_ne_true]; exact ⟨ρ1, av, sl, S1, s1, he.ext e1, g1⟩⟩
/-- a value's truth -/
def truT (S : Sto) : T → Option Bool
  | .non => some false
  | .bl b => some b
  | .int i => some (i != 0)
  | .str y => if y.length ≤ sizeLine then some ((y.length : Int) != 0) else none
  | t => match seqOf S t with
    | some ts => some (!ts.isEmpty)
    | none => none
def dTru (d : DE) : DB := fun sl S => match d sl S with
  | .ok t S' => (match truT S' (fz t) with | some b => .ok b S' | none => .bad)
  | .exc c fs S' => .exc c fs S'
  | .bad => .bad
theorem RepVs.isEmpty {K : PySem.W.Frag} {w : World} {H : Hp} {ρ av : List Addr} {vs : List V} {ts : List T} (r : RepVs K w H ρ av vs ts) : vs.isEmpty = ts.isEmpty := by cases r <;> rfl
theorem lt_tru {d : DE} {e : Expr} (h : LE X W e d) (he : ∀ whole, isTrue e X.env whole = (do let v ← whole; standAt e.pos; holding [v] (truthy v)) := by intro _; rfl) : LT X W e (dTru d) :=
  (pt_truth h he).imp fun σ H Q ⟨ρ, av, sl, S, hs, hE, g⟩ => ⟨ρ, av, sl, S, hs, hE, by
    unfold dTru at g
    cases hd : d sl S with
    | ok t S' =>
      rw [hd] at g
      intro v H' ρ' e s r
      have s := s.ofN
      simp only at g
      cases ht : truT S' (fz t) with
      | none => rw [ht] at g; exact g.elim
      | some b =>
        rw [ht] at g
        refine ⟨b, ?_, g H' ρ' e s⟩
        have rv := r.toV
        generalize fz t = t' at ht rv
        cases t' with
        | non => cases rv; cases ht; rfl
        | bl c => cases rv; cases ht; rfl
        | int i => cases rv; cases ht; rfl
        | str x =>
          cases rv
          simp only [truT] at ht
          split at ht
          · rename_i hl; cases ht; exact ⟨hl, rfl⟩
          · cases ht
        | _ =>
          simp only [truT] at ht
          split at ht
          · rename_i ts hts
            cases ht
            obtain ⟨a, vs, rfl, q, rs⟩ := seq_rep s rv hts
            rw [← rs.isEmpty]
            rcases q with q | q
            · exact .inl ⟨vs, q, rfl⟩
            · exact .inr (.inl ⟨vs, q, rfl⟩)
          · cases ht
    | exc c fs S' => rw [hd] at g; exact g
    | bad => rw [hd] at g; exact g⟩
end
end Dn

/-! < of tuples that can be compared place by place -/
namespace Dn
open PySem PySem.Spec L2
section
variable {X : DX} {W : WX}
def rLtD (K : PySem.W.Frag) : R2 := fun x y H Q => ∃ d e, Dp K H x d ∧ Dp K H y e ∧ PySem.W.alike d e = true ∧ d ≠ .none ∧ d.depth ≤ 60 ∧ Q (.bl (PySem.W.dataLt d e)) H
theorem or_ltD (hu : X.A.units + 65 < cLine) : OpR X (compareOp .Lt) (rLtD X.K) := by
  intro pins s σ H x y v u Q I rx ry h
  obtain ⟨d, e, hd, he, sa, sn, sd, q⟩ := h
  obtain ⟨as, r1⟩ := Dp.reads I d x v hd rx
  obtain ⟨bs, r2⟩ := Dp.reads I e y u he ry
  exact PySem.W.lt_data r1 r2 sa sn (by omega) ⟨.bl _, H, I, rfl, q⟩
def fLTD : T → T → Sto → RE := fun x y S => match x with
  | .tup xs => if fit (dato S (.tup xs)) && (fit (dato S y) && (PySem.W.alike (dato S (.tup xs)) (dato S y) && decide ((dato S (.tup xs)).depth ≤ 60))) then .ok (.bl (PySem.W.dataLt (dato S (.tup xs)) (dato S y))) S else .bad
  | _ => .bad
theorem od_ltD : OpD X (rLtD X.K) fLTD := by
  intro W σ H ρ av S x y tx ty Q hs rx ry q
  unfold fLTD at q
  split at q
  · rename_i xs
    split at q
    · rename_i c
      simp only [Bool.and_eq_true, decide_eq_true_eq] at c
      obtain ⟨c1, c2, c3, c4⟩ := c
      exact ⟨_, _, rx.dpo hs c1, ry.dpo hs c2, c3, fun z => (by cases z), c4, q.now hs (.bl _)⟩
    · exact q.elim
  · exact q.elim
end
end Dn

namespace Dn
open PySem PySem.Spec L2
theorem _root_.L2.PE.or {X : Cx} {e : Expr} {t u : TE} (h : PE X e t) (k : PE X e u) : PE X e (fun σ H Q => t σ H Q ∨ u σ H Q) := ⟨fun pins s σ H Q I q => q.elim (h.run pins s σ H Q I) (k.run pins s σ H Q I)⟩
section
variable {X : DX} {W : WX}

/-! ### o[i] -/
theorem dl_type {pins : List (Addr × Obj)} {σ : L2.St} {H : Hp} {s : Shared} {a : Addr} {y : V} {o : Option V} (I : Inv X pins σ H s) (g : DLook X.K X.w H a y o) : s.TypeIs (.ref a) "dict" := by
  cases g with
  | got g => exact dict_typeIs I g
  | kd D _ _ _ => exact kd_type D I
  | kn D _ _ => exact kd_type D I
theorem dl_get {pins : List (Addr × Obj)} {σ : L2.St} {H : Hp} {s : Shared} {a : Addr} {y v : V} {u : Value} {A : Around} {E : Value → Shared → Prop} {Q : Value → Shared → Prop} (hu : A.units + 1 < cLine) (I : Inv X pins σ H s) (g : DLook X.K X.w H a y (some v)) (ry : RelV y u)
    (h : ∀ w' s', Inv X pins σ H s' → RelV v w' → Q w' s') : wpAny (model X.prog X.w) A (getItem (.ref a) u) Q E s := by
  cases g with
  | got g => exact d_getItem hu I g ry h
  | kd D e h1 r1 =>
    subst e
    obtain ⟨t, rfl⟩ := ry
    exact wpAny_getItem_of (PySem.strKind_is X.prog X.w _ t) (PySem.W.mapOf_K (prog := X.prog) I.kIn D.at_ D.lit) (PySem.W.find_K D.at_ h1) (h _ _ (I.tok _) r1)
theorem ix_dl (hu : X.A.units + 1 < cLine) : IxR X (fun x y H Q => ∃ a v, x = .ref a ∧ DLook X.K X.w H a y (some v) ∧ Q v H) := by
  intro value slice pins s σ H x y v u Q I rx ry h hs
  obtain ⟨a, v0, rfl, g, q⟩ := h
  obtain rfl : v = Value.ref a := rx
  exact PyProof.Rows.tail_any (dl_type I g) PySem.F.slot_dict_getitem.lookup (dl_get hu I g ry fun w' s3 I3 rw' => ⟨v0, H, I3, rw', q⟩) hs
def fIx : T → T → Sto → RE := fun x y S => match x, y with
  | .str z, .int i => if z.length ≤ sizeLine then (match atI z.cps.toList i with | some c => .ok (.str ⟨#[c]⟩) S | none => .bad) else .bad
  | x, y => match seqOf S x, y with
    | some ts, .int i => (match atI ts i with | some t => .ok t S | none => .bad)
    | _, _ => match dget S x y with
      | some (some t) => .ok t S
      | _ => .bad
def rIx4 (K : PySem.W.Frag) (w : World) : R2 := fun x y H Q => rIx K x y H Q ∨ ∃ a v, x = .ref a ∧ DLook K w H a y (some v) ∧ Q v H
theorem RepVs.atI {K : PySem.W.Frag} {w : World} {H : Hp} {ρ av : List Addr} {vs : List V} {ts : List T} {i : Int} {t : T} (r : RepVs K w H ρ av vs ts) (h : L2.atI ts i = some t) : ∃ v, L2.atI vs i = some v ∧ RepV K w H ρ av v t := by
  unfold L2.atI at h ⊢
  rw [r.length]
  cases e : ixN ts.length i with
  | none => rw [e] at h; cases h
  | some j => rw [e] at h; exact r.get h
theorem od_ix : OpD X (rIx4 X.K X.w) fIx := by
  intro W σ H ρ av S x y tx ty Q hs rx ry q
  unfold fIx at q
  split at q
  · cases rx.str_inv; cases ry.int_inv
    split at q
    · rename_i hl
      split at q
      · rename_i c hc
        exact .inl (.inr (.inr ⟨_, _, _, rfl, rfl, hl, hc, q.now hs (.str _)⟩))
      · exact q.elim
    · exact q.elim
  · split at q
    · rename_i ts i hts _
      cases ry.int_inv
      split at q
      · rename_i t ht
        obtain ⟨a, vs, rfl, hq, rs⟩ := seq_rep hs rx hts
        obtain ⟨v, hv, rv⟩ := rs.atI ht
        rcases hq with hq | hq
        · exact .inl (.inl ⟨_, _, _, _, rfl, rfl, hq, hv, q.now hs rv⟩)
        · exact .inl (.inr (.inl ⟨_, _, _, _, rfl, rfl, hq, hv, q.now hs rv⟩))
      · exact q.elim
    · split at q
      · rename_i t ht
        obtain ⟨a, ov, rfl, g, h1, _⟩ := dget_rep hs rx ry ht
        obtain ⟨v, e, rv⟩ := h1 t rfl
        subst e
        exact .inr ⟨a, v, rfl, g, q.now hs rv⟩
      · exact q.elim
theorem le_ix {o i : Expr} {pos : Pos} {da db : DE} (hu : X.A.units + 65 < cLine) (ho : LE X W o da) (hi : LE X W i db) (hs : PlainIx i := by intro _ _; rfl) : LE X W (.Subscript o i pos) (dBin fIx da db) :=
  le_bin od_ix (pe_ix (ix_seq.or (ix_dl (hu1 hu))) ho hi hs)

/-! ### o[i:j] -/
inductive RO where
  | ok (t : Option Int) (S : Sto) | exc (c : Str) (fs : Flds) (S : Sto) | bad
abbrev DO := Sl → Sto → RO
def GoodO (X : DX) (W : WX) (σ : L2.St) (H : Hp) (ρ av : List Addr) (Q : Option Int → Hp → Prop) : RO → Prop
  | .ok b S' => ∀ H' ρ', Ext H ρ H' ρ' → RepS X.K X.w H' ρ' av S' → Q b H'
  | .exc c fs S' => ∀ cls dd H' ρ', Ext H ρ H' ρ' → RepS X.K X.w H' ρ' av S' → RepX X.K X.w H' ρ' av X.mg cls dd c fs → W cls dd σ H'
  | .bad => False
def liftO (X : DX) (W : WX) (d : DO) : TO := fun σ H Q => ∃ ρ av sl S, RepS X.K X.w H ρ av S ∧ RepE X.K X.w X.pin H ρ av σ sl ∧ GoodO X W σ H ρ av Q (d sl S)
abbrev LO (X : DX) (W : WX) (e : Option Expr) (d : DO) : Prop := PO X e (liftO X W d)
def RO.bindE (r : RO) (f : Option Int → Sto → RE) : RE := match r with
  | .ok b S => f b S
  | .exc c fs S => .exc c fs S
  | .bad => .bad
theorem GoodO.stepE {σ : L2.St} {H : Hp} {ρ av : List Addr} {Q : VK} {r : RO} {f : Option Int → Sto → RE} {Q1 : Option Int → Hp → Prop} (g : GoodE X W σ H ρ av Q (r.bindE f))
    (h : ∀ b S1, ∀ H1 ρ1, Ext H ρ H1 ρ1 → RepS X.K X.w H1 ρ1 av S1 → GoodE X W σ H1 ρ1 av Q (f b S1) → Q1 b H1) : GoodO X W σ H ρ av Q1 r := by
  cases r with
  | ok b S1 => exact fun H1 ρ1 e s => h b S1 H1 ρ1 e s (GoodE.ext e g)
  | exc c fs S1 => exact g
  | bad => exact g.elim
def dNoPart : DO := fun _ S => .ok none S
def dPart (d : DE) : DO := fun sl S => match d sl S with
  | .ok (.int i) S' => .ok (some i) S'
  | .ok _ _ => .bad
  | .exc c fs S' => .exc c fs S'
  | .bad => .bad
theorem _root_.L2.PO.imp {X : Cx} {e : Option Expr} {t t' : TO} (h : PO X e t) (f : ∀ σ H Q, t' σ H Q → t σ H Q) : PO X e t' := ⟨fun pins s σ H Q I q => h.run pins s σ H Q I (f σ H Q q)⟩
theorem lo_none : LO X W none dNoPart := po_none.imp fun σ H Q ⟨ρ, av, sl, S, hs, he, g⟩ => g H ρ (Ext.refl _ _) hs
theorem lo_some {e : Expr} {d : DE} (h : LE X W e d) : LO X W (some e) (dPart d) := (po_some h).imp fun σ H Q ⟨ρ, av, sl, S, hs, he, g⟩ => ⟨ρ, av, sl, S, hs, he, by
  unfold dPart at g
  cases hd : d sl S with
  | ok t S' =>
    rw [hd] at g
    cases t with
    | int i =>
      intro v H' ρ' e s r
      cases RepV.int_inv (r : RepV X.K X.w H' ρ' av v (.int i))
      exact ⟨i, rfl, g H' ρ' e s⟩
    | _ => exact g.elim
  | exc c fs S' => rw [hd] at g; exact g
  | bad => rw [hd] at g; exact g⟩
def cutT {α : Type} (xs : List α) (lo hi : Option Int) : List α := (xs.drop (HT.sIx xs.length 0 lo)).take (HT.sIx xs.length xs.length hi - HT.sIx xs.length 0 lo)
def fSl (x : T) (lo hi : Option Int) (S : Sto) : RE := match x with
  | .str z => if z.length ≤ sizeLine then .ok (.str (cutS z lo hi)) S else .bad
  | .tup ts => .ok (.tup (cutT ts lo hi)) S
  | x => match lstOf S x with
    | some ts => .ok (.nlst (cutT ts lo hi)) S
    | none => .bad
def rSl4 (K : PySem.W.Frag) : V → Option Int → Option Int → Hp → VK → Prop := fun x lo hi H Q => rSlF K x lo hi H Q ∨ rSlL K x lo hi H Q ∨ rSlS x lo hi H Q
theorem sl_any : SlR X (rSl4 X.K) := sl_tupF.or (sl_list.or sl_str)
theorem od_sl {σ : L2.St} {H : Hp} {ρ av : List Addr} {S : Sto} {x : V} {tx : T} {lo hi : Option Int} {Q : VK} (hs : RepS X.K X.w H ρ av S) (rx : RepV X.K X.w H ρ av x tx) (q : GoodE X W σ H ρ av Q (fSl tx lo hi S)) : rSl4 X.K x lo hi H Q := by
  unfold fSl at q
  split at q
  · cases rx.str_inv
    split at q
    · rename_i hl
      exact .inr (.inr ⟨_, rfl, hl, q.now hs (.str _)⟩)
    · exact q.elim
  · rename_i ts
    obtain ⟨a, vs, rfl, ha, ra⟩ := tup_rep rx
    refine .inl ⟨a, vs, rfl, ha, fun e => ?_, fun e p o hp hd => ?_⟩
    · rw [ra.length] at e
      have ec : cutT ts lo hi = ts := by
        unfold cutT
        rw [e.1, e.2]
        simp
      rw [ec] at q
      exact q.now hs rx
    · have ev : cutV vs lo hi = (vs.drop (HT.sIx ts.length 0 lo)).take (HT.sIx ts.length ts.length hi - HT.sIx ts.length 0 lo) := by unfold cutV; rw [ra.length]
      rw [ev]
      exact q.newTup hs ((ra.drop _).take _) hp hd
  · split at q
    · rename_i ts hts
      obtain ⟨a, vs, rfl, ha, ra⟩ := lst_rep hs rx hts
      have ev : cutV vs lo hi = (vs.drop (HT.sIx ts.length 0 lo)).take (HT.sIx ts.length ts.length hi - HT.sIx ts.length 0 lo) := by unfold cutV; rw [ra.length]
      exact .inr (.inl ⟨a, vs, rfl, ha, fun p hp => by rw [ev]; exact q.newLst hs ((ra.drop _).take _) hp⟩)
    · exact q.elim
def dSl (da : DE) (dl dh : DO) : DE := fun sl S => (da sl S).bind fun x S1 => (dl sl S1).bindE fun l S2 => (dh sl S2).bindE fun u S3 => fSl (fz x) l u S3
theorem le_sl {e : Expr} {lo hi : Option Expr} {p2 pos : Pos} {da : DE} {dl dh : DO} (he : LE X W e da) (hl : LO X W lo dl) (hh : LO X W hi dh) : LE X W (.Subscript e (.Slice lo hi none p2) pos) (dSl da dl dh) :=
  (pe_slice sl_any he hl hh).imp fun σ H Q ⟨ρ, av, sl, S, hs, hE, g⟩ => ⟨ρ, av, sl, S, hs, hE, GoodE.step g fun t S1 _ v H1 ρ1 e1 s1 r1 g1 =>
    ⟨ρ1, av, sl, S1, s1, hE.ext e1, GoodO.stepE g1 fun l S2 H2 ρ2 e2 s2 g2 => ⟨ρ2, av, sl, S2, s2, (hE.ext e1).ext e2, GoodO.stepE g2 fun u S3 H3 ρ3 e3 s3 g3 => od_sl s3 ((r1.toV.ext e2).ext e3) g3⟩⟩⟩
/-- xs[::-1], of a list or of a tuple -/
def fRev : T → Sto → RE := fun x S => match x with
  | .tup ts => .ok (.tup ts.reverse) S
  | x => match lstOf S x with
    | some ts => .ok (.nlst ts.reverse) S
    | none => .bad
theorem le_rev {e : Expr} {k : Nat} {p1 p2 p3 pos : Pos} {da : DE} (he : LE X W e da) : LE X W (.Subscript e (.Slice none none (some (.UnaryOp .USub (.Constant (.int 1) k p1) p2)) p3) pos) (dUn fRev da) :=
  (pe_revA he).imp fun σ H Q ⟨ρ, av, sl, S, hs, hE, g⟩ => ⟨ρ, av, sl, S, hs, hE, GoodE.step g fun t S1 _ v H1 ρ1 e1 s1 r1 g1 => by
    unfold fRev at g1
    split at g1
    · rename_i ts hts
      have r2 := r1.toV
      rw [hts] at r2
      obtain ⟨a, vs, rfl, ha, ra⟩ := tup_rep r2
      exact .inr ⟨a, vs, rfl, ha, fun p o hp hd => g1.newTup s1 ra.reverse hp hd⟩
    · split at g1
      · rename_i ts hts
        obtain ⟨a, vs, rfl, ha, ra⟩ := lst_rep s1 r1.toV hts
        exact .inl ⟨a, vs, rfl, ha, fun p hp => g1.newLst s1 ra.reverse hp⟩
      · exact g1.elim⟩

/-! ### arguments, displays -/
def RA.bind (r : RA) (f : List T → Sto → RE) : RE := match r with
  | .ok ts S => f ts S
  | .exc c fs S => .exc c fs S
  | .bad => .bad
theorem GoodA.step {σ : L2.St} {H : Hp} {ρ av : List Addr} {Q : VK} {r : RA} {f : List T → Sto → RE} {Q1 : List V → Hp → Prop} (g : GoodE X W σ H ρ av Q (r.bind f))
    (h : ∀ ts S1, ∀ vs H1 ρ1, Ext H ρ H1 ρ1 → RepS X.K X.w H1 ρ1 av S1 → RepVs X.K X.w H1 ρ1 av vs ts → GoodE X W σ H1 ρ1 av Q (f ts S1) → Q1 vs H1) : GoodA X W σ H ρ av Q1 r := by
  cases r with
  | ok ts S1 => exact fun vs H1 ρ1 e s rr => h ts S1 vs H1 ρ1 e s rr (GoodE.ext e g)
  | exc c fs S1 => exact g
  | bad => exact g.elim
def dNil : DA := fun _ S => .ok [] S
def dCons (d : DE) (r : DA) : DA := fun sl S => match d sl S with
  | .ok t S1 => (match r sl S1 with
    | .ok ts S2 => .ok (fz t :: ts) S2
    | .exc c fs S2 => .exc c fs S2
    | .bad => .bad)
  | .exc c fs S1 => .exc c fs S1
  | .bad => .bad
theorem la_nil : LA X W [] dNil := pa_nil.imp fun σ H Q ⟨ρ, av, sl, S, hs, he, g⟩ => g [] H ρ (Ext.refl _ _) hs .nil
theorem la_cons {e : Expr} {es : List Expr} {d : DE} {r : DA} (h : LE X W e d) (hr : LA X W es r) (hst : starEach (e :: es) X.env = (false, eval e X.env) :: starEach es X.env := by rfl) : LA X W (e :: es) (dCons d r) :=
  (pa_cons h hr hst).imp fun σ H Q ⟨ρ, av, sl, S, hs, he, g⟩ => ⟨ρ, av, sl, S, hs, he, by
    unfold dCons at g
    cases hd : d sl S with
    | ok t S1 =>
      rw [hd] at g
      intro v H1 ρ1 e1 s1 r1
      have s1 := s1.ofN
      refine ⟨ρ1, av, sl, S1, s1, he.ext e1, ?_⟩
      cases hr' : r sl S1 with
      | ok ts S2 =>
        simp only [hr'] at g
        exact fun vs H2 ρ2 e2 s2 r2 => g (v :: vs) H2 ρ2 (e1.trans e2) s2 (.cons (r1.toV.ext e2) r2)
      | exc c fs S2 => simp only [hr'] at g; exact fun cls dd H2 ρ2 e2 s2 r2 => g cls dd H2 ρ2 (e1.trans e2) s2 r2
      | bad => simp only [hr'] at g; exact g
    | exc c fs S1 => rw [hd] at g; exact g
    | bad => rw [hd] at g; exact g⟩
def dTup (d : DA) : DE := fun sl S => (d sl S).bind fun ts S1 => if ts.length ≤ sizeLine then .ok (.tup ts) S1 else .bad
theorem le_tup {es : List Expr} {x1 : Nat} {pos : Pos} {d : DA} (h : LA X W es d) : LE X W (.Tuple es x1 pos) (dTup d) :=
  (pe_tupF h).imp fun σ H Q ⟨ρ, av, sl, S, hs, he, g⟩ => ⟨ρ, av, sl, S, hs, he, GoodA.step g fun ts S1 vs H1 ρ1 e1 s1 r1 g1 => by
    split at g1
    · rename_i hl
      exact ⟨by rw [r1.length]; exact hl, fun p o hp hd => g1.newTup s1 r1 hp hd⟩
    · exact g1.elim⟩
def dLst (d : DA) : DE := fun sl S => (d sl S).bind fun ts S1 => if ts.length ≤ sizeLine then .ok (.nlst ts) S1 else .bad
theorem le_lst {es : List Expr} {pos : Pos} {d : DA} (h : LA X W es d) : LE X W (.List es pos) (dLst d) :=
  (pe_lst h).imp fun σ H Q ⟨ρ, av, sl, S, hs, he, g⟩ => ⟨ρ, av, sl, S, hs, he, GoodA.step g fun ts S1 vs H1 ρ1 e1 s1 r1 g1 => by
    split at g1
    · rename_i hl
      exact ⟨by rw [r1.length]; exact hl, fun p hp => g1.newLst s1 r1 hp⟩
    · exact g1.elim⟩

/-! ### built-ins by values -/
def OpDs (X : DX) (r : List V → Hp → VK → Prop) (f : List T → Sto → RE) : Prop := ∀ (W : WX) (σ : L2.St) (H : Hp) (ρ av : List Addr) (S : Sto) (vs : List V) (ts : List T) (Q : VK),
  RepS X.K X.w H ρ av S → RepVs X.K X.w H ρ av vs ts → GoodE X W σ H ρ av Q (f ts S) → r vs H Q
def dCall (f : List T → Sto → RE) (d : DA) : DE := fun sl S => (d sl S).bind f
theorem le_blt {r : List V → Hp → VK → Prop} {f : List T → Sto → RE} {d : DA} {e : Expr} (hf : OpDs X r f) (h : PE X e (tCB r (liftA X W d))) : LE X W e (dCall f d) :=
  h.imp fun σ H Q ⟨ρ, av, sl, S, hs, he, g⟩ => ⟨ρ, av, sl, S, hs, he, GoodA.step g fun ts S1 vs H1 ρ1 e1 s1 r1 g1 => hf W σ H1 ρ1 av S1 vs ts Q s1 r1 g1⟩
end
end Dn

namespace Dn
open PySem PySem.Spec L2
section
variable {X : DX} {W : WX}

/-! ### statements -/
theorem GoodS.ext {H H1 : Hp} {ρ ρ1 av : List Addr} {n : Nat} {D : Ends} {r : RS} (e : Ext H ρ H1 ρ1) (g : GoodS X W H ρ av n D r) : GoodS X W H1 ρ1 av n D r := by
  cases r with
  | nx sl S => exact fun σ' H' ρ' e' s' r' hl => g σ' H' ρ' (e.trans e') s' r' hl
  | bk sl S => exact fun σ' H' ρ' e' s' r' hl => g σ' H' ρ' (e.trans e') s' r' hl
  | ct sl S => exact fun σ' H' ρ' e' s' r' hl => g σ' H' ρ' (e.trans e') s' r' hl
  | rt t S => exact fun v H' ρ' e' s' r' => g v H' ρ' (e.trans e') s' (r'.back e)
  | exc c fs sl S => exact fun cls dd σ' H' ρ' e' s' r' hl rx => g cls dd σ' H' ρ' (e.trans e') s' r' hl rx
  | bad => exact g
def RE.toS (r : RE) (sl : Sl) (f : T → Sto → RS) : RS := match r with
  | .ok t S => f t S
  | .exc c fs S => .exc c fs sl S
  | .bad => .bad
/-- an expression within a statement -/
theorem GoodS.expr {σ : L2.St} {sl : Sl} {H : Hp} {ρ av : List Addr} {D : Ends} {r : RE} {f : T → Sto → RS} {Q : VK} (g : GoodS X W H ρ av σ.length D (r.toS sl f)) (he : RepE X.K X.w X.pin H ρ av σ sl)
    (h : ∀ t S1, ∀ v H1 ρ1, Ext H ρ H1 ρ1 → RepS X.K X.w H1 ρ1 (avN v t av) S1 → RepR X.K X.w H1 ρ1 av H v t → GoodS X W H ρ av σ.length D (f t S1) → Q v H1) : GoodE X W σ H ρ av Q r := by
  cases r with
  | ok t S1 => exact fun v H1 ρ1 e s rr => h t S1 v H1 ρ1 e s rr g
  | exc c fs S1 => exact fun cls dd H1 ρ1 e s rx => g cls dd σ H1 ρ1 e s (he.ext e) rfl rx
  | bad => exact g.elim
def RB.toS (r : RB) (sl : Sl) (f : Bool → Sto → RS) : RS := match r with
  | .ok t S => f t S
  | .exc c fs S => .exc c fs sl S
  | .bad => .bad
theorem GoodS.test {σ : L2.St} {sl : Sl} {H : Hp} {ρ av : List Addr} {D : Ends} {r : RB} {f : Bool → Sto → RS} {Q : Bool → Hp → Prop} (g : GoodS X W H ρ av σ.length D (r.toS sl f)) (he : RepE X.K X.w X.pin H ρ av σ sl)
    (h : ∀ t S1, ∀ H1 ρ1, Ext H ρ H1 ρ1 → RepS X.K X.w H1 ρ1 av S1 → GoodS X W H1 ρ1 av σ.length D (f t S1) → Q t H1) : GoodB X W σ H ρ av Q r := by
  cases r with
  | ok t S1 => exact fun H1 ρ1 e s => h t S1 H1 ρ1 e s (g.ext e)
  | exc c fs S1 => exact fun cls dd H1 ρ1 e s rx => g cls dd σ H1 ρ1 e s (he.ext e) rfl rx
  | bad => exact g.elim
theorem RepE.set {K : PySem.W.Frag} {w : World} {pn : Option Pin} {H : Hp} {ρ av : List Addr} {σ : L2.St} {sl : Sl} {v : V} {t : T} (he : RepE K w pn H ρ av σ sl) (r : RepV K w H ρ av v t) (i : Nat) : RepE K w pn H ρ av (σ.set i (some v)) (sl.set i (some t)) := by
  refine ⟨by rw [List.length_set, List.length_set]; exact he.len, fun j u h => ?_, fun p hp => ?_⟩
  rotate_left
  · obtain ⟨h1, h2, h3, h4, h5⟩ := he.pin p hp
    refine ⟨h1, h2, h3, h4, fun z => ?_⟩
    by_cases hj : i = p.i
    · rw [hj] at z
      by_cases hl : p.i < sl.length
      · rw [List.getElem?_set_self hl] at z; cases z
      · rw [List.getElem?_eq_none (by simpa using hl)] at z; cases z
    · rw [List.getElem?_set_ne hj] at z ⊢; exact h5 z
  by_cases hj : i = j
  · subst hj
    have hl : i < sl.length := by
      have := (List.getElem?_eq_some_iff.mp h).1
      rwa [List.length_set] at this
    rw [List.getElem?_set_self hl] at h
    cases h
    exact ⟨v, by rw [List.getElem?_set_self (by rw [he.len]; exact hl)], r⟩
  · rw [List.getElem?_set_ne hj] at h
    obtain ⟨x, h1, h2⟩ := he.at_ j u h
    exact ⟨x, by rw [List.getElem?_set_ne hj]; exact h1, h2⟩
theorem RepE.ren {K : PySem.W.Frag} {w : World} {pn : Option Pin} {H : Hp} {ρ av : List Addr} {σ : L2.St} {sl : Sl} (he : RepE K w pn H ρ av σ sl) {i : Nat} {t : T} (h : ∀ v, σ[i]? = some (some v) → RepV K w H ρ av v t) (hs : ∃ v, σ[i]? = some (some v)) : RepE K w pn H ρ av σ (sl.set i (some t)) := by
  refine ⟨by rw [List.length_set]; exact he.len, fun j u h2 => ?_, fun p hp => ?_⟩
  rotate_left
  · obtain ⟨h1, h2, h3, h4, h5⟩ := he.pin p hp
    refine ⟨h1, h2, h3, h4, fun z => ?_⟩
    by_cases hj : i = p.i
    · rw [hj] at z
      by_cases hl : p.i < sl.length
      · rw [List.getElem?_set_self hl] at z; cases z
      · rw [List.getElem?_eq_none (by simpa using hl)] at z; cases z
    · rw [List.getElem?_set_ne hj] at z; exact h5 z
  by_cases hj : i = j
  · subst hj
    have hl : i < sl.length := by
      have := (List.getElem?_eq_some_iff.mp h2).1
      rwa [List.length_set] at this
    rw [List.getElem?_set_self hl] at h2
    cases h2
    obtain ⟨v, hv⟩ := hs
    exact ⟨v, hv, h v hv⟩
  · rw [List.getElem?_set_ne hj] at h2
    exact he.at_ j u h2

def dNext : DS := fun sl S => .nx sl S
def dSeq (a b : DS) : DS := fun sl S => match a sl S with
  | .nx sl' S' => b sl' S'
  | r => r
theorem lss_nil : LSs X W [] dNext := pss_nil.imp fun D σ H ⟨ρ, av, sl, S, hs, he, g⟩ => g σ H ρ (Ext.refl _ _) hs he rfl
theorem lss_cons {st : Stmt} {rest : List Stmt} {a b : DS} (ha : LS X W st a) (hb : LSs X W rest b) : LSs X W (st :: rest) (dSeq a b) :=
  (pss_cons ha hb).imp fun D σ H ⟨ρ, av, sl, S, hs, he, g⟩ => ⟨ρ, av, sl, S, hs, he, by
    unfold dSeq at g
    cases h : a sl S with
    | nx sl' S' =>
      rw [h] at g
      exact fun σ' H' ρ' e s r hl => ⟨ρ', av, sl', S', s, r, by rw [hl]; exact GoodS.ext e g⟩
    | bk sl' S' => rw [h] at g; exact g
    | ct sl' S' => rw [h] at g; exact g
    | rt t S' => rw [h] at g; exact g
    | exc c fs sl' S' => rw [h] at g; exact g
    | bad => rw [h] at g; exact g⟩
theorem lss_one {st : Stmt} {a : DS} (ha : LS X W st a) : LSs X W [st] a := pss_one ha
theorem ls_pass {pos : Pos} : LS X W (.Pass pos) dNext := ps_pass.imp fun D σ H ⟨ρ, av, sl, S, hs, he, g⟩ => g σ H ρ (Ext.refl _ _) hs he rfl
def dBreak : DS := fun sl S => .bk sl S
def dCont : DS := fun sl S => .ct sl S
theorem ls_break {pos : Pos} : LS X W (.Break pos) dBreak := ps_break.imp fun D σ H ⟨ρ, av, sl, S, hs, he, g⟩ => g σ H ρ (Ext.refl _ _) hs he rfl
theorem ls_cont {pos : Pos} : LS X W (.Continue pos) dCont := ps_continue.imp fun D σ H ⟨ρ, av, sl, S, hs, he, g⟩ => g σ H ρ (Ext.refl _ _) hs he rfl
def dExpr (d : DE) : DS := fun sl S => (d sl S).toS sl fun _ S1 => .nx sl S1
theorem ls_expr {e : Expr} {pos : Pos} {d : DE} (h : LE X W e d) (hsw : swapsWith e none pos.line X.env = pure false := by rfl) : LS X W (.Expr e pos) (dExpr d) :=
  (ps_expr h hsw).imp fun D σ H ⟨ρ, av, sl, S, hs, he, g⟩ => ⟨ρ, av, sl, S, hs, he, GoodS.expr g he fun t S1 v H1 ρ1 e1 s1 r1 g1 => g1 σ H1 ρ1 e1 s1.ofN (he.ext e1) rfl⟩
def dRet (d : DE) : DS := fun sl S => (d sl S).toS sl fun t S1 => .rt t S1
theorem ls_ret {e : Expr} {pos : Pos} {d : DE} (h : LE X W e d) : LS X W (.Return (some e) pos) (dRet d) :=
  (ps_ret h).imp fun D σ H ⟨ρ, av, sl, S, hs, he, g⟩ => ⟨ρ, av, sl, S, hs, he, GoodS.expr g he fun t S1 v H1 ρ1 e1 s1 r1 g1 => g1 v H1 ρ1 e1 s1 r1⟩
def dRetN : DS := fun sl S => .rt .non S
theorem ls_retN {pos : Pos} : LS X W (.Return none pos) dRetN := ps_retN.imp fun D σ H ⟨ρ, av, sl, S, hs, he, g⟩ => g .non H ρ (Ext.refl _ _) hs .non
def dIf (c : DB) (a b : DS) : DS := fun sl S => (c sl S).toS sl fun k S1 => if k then a sl S1 else b sl S1
theorem ls_if {c : Expr} {a b : List Stmt} {pos : Pos} {dc : DB} {da db : DS} (hc : LT X W c dc) (ha : LSs X W a da) (hb : LSs X W b db) : LS X W (.If c a b pos) (dIf dc da db) :=
  (ps_if hc ha hb).imp fun D σ H ⟨ρ, av, sl, S, hs, he, g⟩ => ⟨ρ, av, sl, S, hs, he, GoodS.test g he fun k S1 H1 ρ1 e1 s1 g1 => by
    cases k with
    | true => rw [if_pos rfl]; exact ⟨ρ1, av, sl, S1, s1, he.ext e1, g1⟩
    | false => rw [if_neg Bool.false_ne_true]; exact ⟨ρ1, av, sl, S1, s1, he.ext e1, g1⟩⟩
/-- x = e, a list frozen -/
def dSet (i : Nat) (d : DE) : DS := fun sl S => (d sl S).toS sl fun t S1 => .nx (sl.set i (some (fz t))) S1
theorem ls_set {i : Nat} {st : Stmt} {d : DE} (h : PS X st (tAsg (liftE X W d) (gName i))) : LS X W st (dSet i d) :=
  h.imp fun D σ H ⟨ρ, av, sl, S, hs, he, g⟩ => ⟨ρ, av, sl, S, hs, he, GoodS.expr g he fun t S1 v H1 ρ1 e1 s1 r1 g1 =>
    g1 _ H1 ρ1 e1 s1.ofN ((he.ext e1).set r1.toV i) (by rw [List.length_set])⟩
/-- x = e, a list made just now goes to the store -/
def dSetM (i : Nat) (d : DE) : DS := fun sl S => (d sl S).toS sl fun t S1 => match t with
  | .nlst ts => .nx (sl.set i (some (.ref S1.length))) (S1 ++ [.lst ts])
  | t => .nx (sl.set i (some t)) S1
end
section
variable {K : PySem.W.Frag} {w : World} {H H' H0 : Hp} {ρ ρ' av av' : List Addr}
mutual
theorem RepV.push {p : Addr} : ∀ {v : V} {t : T}, RepV K w H ρ (p :: av) v t → RepV K w H (ρ ++ [p]) av v t
  | _, _, .non => .non
  | _, _, .bl b => .bl b
  | _, _, .int b => .int b
  | _, _, .str b => .str b
  | _, _, .tup h hd r => .tup h hd (RepVs.push r)
  | _, _, .tupK h r => .tupK h (RepVs.push r)
  | _, _, .lst h h1 h2 r => .lst h (fun z => (List.mem_append.mp z).elim h1 fun q => h2 (by rw [List.mem_singleton.mp q]; exact List.mem_cons_self)) (fun z => h2 (List.mem_cons_of_mem _ z)) (RepVs.push r)
  | _, _, .flst h r => .flst h (RepVs.push r)
  | _, _, .ref h => .ref (by rw [List.getElem?_append_left (List.getElem?_eq_some_iff.mp h).1]; exact h)
  | _, _, .dic h h1 h2 r => .dic h (fun z => (List.mem_append.mp z).elim h1 fun q => h2 (by rw [List.mem_singleton.mp q]; exact List.mem_cons_self)) (fun z => h2 (List.mem_cons_of_mem _ z)) (RepKs.push r)
  | _, _, .dicK h hx r => .dicK h hx (RepKs.push r)
theorem RepVs.push {p : Addr} : ∀ {v : List V} {t : List T}, RepVs K w H ρ (p :: av) v t → RepVs K w H (ρ ++ [p]) av v t
  | _, _, .nil => .nil
  | _, _, .cons r rs => .cons (RepV.push r) (RepVs.push rs)
theorem RepKs.push {p : Addr} : ∀ {v : List (Key × V)} {t : List (Key × T)}, RepKs K w H ρ (p :: av) v t → RepKs K w H (ρ ++ [p]) av v t
  | _, _, .nil => .nil
  | _, _, .cons r rs => .cons (RepV.push r) (RepKs.push rs)
end
theorem RepO.push {p a : Addr} {o : MO} (h : RepO K w H ρ (p :: av) a o) : RepO K w H (ρ ++ [p]) av a o := by
  cases o with
  | lst ts => obtain ⟨vs, h1, h2⟩ := h; exact ⟨vs, h1, h2.push⟩
  | dK ts => obtain ⟨vs, h1, h2⟩ := h; exact ⟨vs, h1, Paired.mono (fun _ _ h => ⟨h.1, h.2.push⟩) h2⟩
  | dT ts => obtain ⟨vs, h1, h2⟩ := h; exact ⟨vs, h1, Paired.mono (fun _ _ h => ⟨h.1, h.2.push⟩) h2⟩
  | ins c fs => exact h
/-- an avoided address becomes one of the store's -/
theorem RepS.push {S : Sto} {p : Addr} {o : MO} (s : RepS K w H ρ (p :: av) S) (hp : p ∉ av) (ro : RepO K w H (ρ ++ [p]) av p o) : RepS K w H (ρ ++ [p]) av (S ++ [o]) := by
  obtain ⟨h1, h2⟩ := s.out p List.mem_cons_self
  refine ⟨by simp [s.len], ?_, fun i a ob g1 g2 => ?_, fun a ha => ?_⟩
  · rw [List.nodup_append]
    exact ⟨s.nd, by simp, fun a ha b hb e => h2 (by rw [List.mem_singleton] at hb; rw [← hb, ← e]; exact ha)⟩
  · by_cases hi : i < ρ.length
    · rw [List.getElem?_append_left hi] at g1
      rw [List.getElem?_append_left (by rw [← s.len]; exact hi)] at g2
      exact (s.obj i a ob g1 g2).push
    · have hl := (List.getElem?_eq_some_iff.mp g1).1
      have e : i = ρ.length := by simp at hl; omega
      subst e
      rw [List.getElem?_append_right (Nat.le_refl _)] at g1
      rw [s.len, List.getElem?_append_right (Nat.le_refl _)] at g2
      simp at g1 g2
      subst g1 g2
      exact ro
  · obtain ⟨q1, q2⟩ := s.out a (List.mem_cons_of_mem _ ha)
    exact ⟨q1, fun z => (List.mem_append.mp z).elim q2 fun q => hp (by rw [List.mem_singleton] at q; rw [← q]; exact ha)⟩
end
section
variable {X : DX} {W : WX}
theorem ls_setM {i : Nat} {st : Stmt} {d : DE} (h : PS X st (tAsg (liftE X W d) (gName i))) : LS X W st (dSetM i d) :=
  h.imp fun D σ H ⟨ρ, av, sl, S, hs, he, g⟩ => ⟨ρ, av, sl, S, hs, he, GoodS.expr g he fun t S1 v H1 ρ1 e1 s1 r1 g1 => by
    cases t with
    | nlst ts =>
      obtain ⟨a, vs, rfl, h0, ha, n1, n2, rs⟩ := r1
      have e2 : Ext H ρ H1 (ρ1 ++ [a]) := ⟨by obtain ⟨n, q⟩ := e1.pre; exact ⟨n ++ [a], by rw [q, List.append_assoc]⟩, fun b hb => by
        rcases List.mem_append.mp hb with q | q
        · exact e1.new b q
        · rw [List.mem_singleton.mp q]; exact .inr h0, e1.keep, e1.imm, e1.dom⟩
      -- what stood ahead does not tell of it: a was not there
      have old : ∀ {v : V} {t : T}, RepV X.K X.w H ρ av v t → RepV X.K X.w H1 (ρ1 ++ [a]) av v t := fun r => ((r.more h0).ext e1).push
      have rs2 : RepVs X.K X.w H1 (ρ1 ++ [a]) av vs ts := rs.push
      refine g1 _ H1 (ρ1 ++ [a]) e2 (RepS.push s1 n2 ⟨vs, ha, rs2⟩) ?_ (by rw [List.length_set])
      have he1 : RepE X.K X.w X.pin H1 (ρ1 ++ [a]) av σ sl := he.to old fun d vs z1 z2 z3 => ⟨e1.keep _ _ z2 z1, fun z => (List.mem_append.mp z).elim (e1.notin (by rw [z1]; simp) z2) fun z => (by rw [List.mem_singleton] at z; rw [z, h0] at z1; cases z1), z3⟩
      refine he1.set (.ref ?_) i
      have hl : ρ1.length = _ := s1.len
      rw [← hl, List.getElem?_append_right (Nat.le_refl _)]
      simp
    | _ => exact g1 _ H1 ρ1 e1 s1.ofN ((he.ext e1).set (show RepV X.K X.w H1 ρ1 av v _ from r1) i) (by rw [List.length_set])⟩
end
end Dn

namespace Dn
open PySem PySem.Spec L2
section
variable {X : DX} {W : WX}

/-! ### targets -/
abbrev DG := T → Sl → Sto → Option (Sl × Sto)
abbrev DGs := List T → Sl → Sto → Option (Sl × Sto)
def GoodG (X : DX) (H : Hp) (ρ av : List Addr) (n : Nat) (Q : L2.St → Hp → Prop) : Option (Sl × Sto) → Prop
  | some (sl', S') => ∀ σ' H' ρ', Ext H ρ H' ρ' → RepS X.K X.w H' ρ' av S' → RepE X.K X.w X.pin H' ρ' av σ' sl' → σ'.length = n → Q σ' H'
  | none => False
def liftG (X : DX) (d : DG) : TG := fun v σ H Q => ∃ ρ av sl S t, RepS X.K X.w H ρ av S ∧ RepE X.K X.w X.pin H ρ av σ sl ∧ RepV X.K X.w H ρ av v t ∧ GoodG X H ρ av σ.length Q (d t sl S)
def liftGs (X : DX) (d : DGs) : TGs := fun vs σ H Q => ∃ ρ av sl S ts, RepS X.K X.w H ρ av S ∧ RepE X.K X.w X.pin H ρ av σ sl ∧ RepVs X.K X.w H ρ av vs ts ∧ GoodG X H ρ av σ.length Q (d ts sl S)
abbrev LG (X : DX) (e : Expr) (d : DG) : Prop := PG X e (liftG X d)
abbrev LGs (X : DX) (es : List Expr) (d : DGs) : Prop := PGs X es (liftGs X d)
theorem _root_.L2.PG.imp {X : Cx} {e : Expr} {t t' : TG} (h : PG X e t) (f : ∀ v σ H Q, t' v σ H Q → t v σ H Q) : PG X e t' := ⟨fun pins s σ H v u Q I r q => h.run pins s σ H v u Q I r (f v σ H Q q)⟩
theorem _root_.L2.PGs.imp {X : Cx} {e : List Expr} {t t' : TGs} (h : PGs X e t) (f : ∀ v σ H Q, t' v σ H Q → t v σ H Q) : PGs X e t' := ⟨fun pins s σ H v u Q I r q => h.run pins s σ H v u Q I r (f v σ H Q q)⟩
def gN (i : Nat) : DG := fun t sl S => some (sl.set i (some t), S)
theorem lg_name {e : Expr} {i : Nat} (h : PG X e (gName i)) : LG X e (gN i) := h.imp fun v σ H Q ⟨ρ, av, sl, S, t, hs, he, r, g⟩ => g _ H ρ (Ext.refl _ _) hs (he.set r i) (by rw [List.length_set])
def gsNil : DGs := fun ts sl S => match ts with
  | [] => some (sl, S)
  | _ => none
def gsCons (g : DG) (r : DGs) : DGs := fun ts sl S => match ts with
  | t :: us => (match g t sl S with
    | some (sl', S') => r us sl' S'
    | none => none)
  | [] => none
theorem lgs_nil : LGs X [] gsNil := pgs_nil.imp fun vs σ H Q ⟨ρ, av, sl, S, ts, hs, he, r, g⟩ => by
  cases r with
  | nil => exact ⟨rfl, g σ H ρ (Ext.refl _ _) hs he rfl⟩
  | cons _ _ => exact g.elim
theorem GoodG.ext {H H1 : Hp} {ρ ρ1 av : List Addr} {n : Nat} {Q : L2.St → Hp → Prop} {r : Option (Sl × Sto)} (e : Ext H ρ H1 ρ1) (g : GoodG X H ρ av n Q r) : GoodG X H1 ρ1 av n Q r := by
  cases r with
  | none => exact g
  | some p => exact fun σ' H' ρ' e' s r hl => g σ' H' ρ' (e.trans e') s r hl
theorem lgs_cons {e : Expr} {es : List Expr} {g : DG} {r : DGs} (h1 : LG X e g) (h2 : LGs X es r) (hs : (assignEach (e :: es) X.env).map (·.2) = assign e X.env :: (assignEach es X.env).map (·.2) := by rfl) : LGs X (e :: es) (gsCons g r) :=
  (pgs_cons h1 h2 hs).imp fun vs σ H Q ⟨ρ, av, sl, S, ts, hs, he, rv, q⟩ => by
    cases rv with
    | nil => exact q.elim
    | @cons v t vs ts rv rvs =>
      refine ⟨v, vs, rfl, ρ, av, sl, S, t, hs, he, rv, ?_⟩
      unfold gsCons at q
      simp only at q
      cases e1 : g t sl S with
      | none => rw [e1] at q; exact q.elim
      | some p =>
        rw [e1] at q
        exact fun σ' H' ρ' e' s' r' hl => ⟨ρ', av, p.1, p.2, ts, s', r', rvs.ext e', by rw [hl]; exact GoodG.ext e' q⟩
def tupOf : T → Option (List T)
  | .tup ts => some ts
  | .ktup ts => some ts
  | _ => none
theorem tupOf_rep {K : PySem.W.Frag} {w : World} {H : Hp} {ρ av : List Addr} {v : V} {t : T} {ts : List T} (r : RepV K w H ρ av v t) (h : tupOf t = some ts) : ∃ a vs, v = .ref a ∧ SqT K H a vs ∧ RepVs K w H ρ av vs ts := by
  cases r with
  | tup h' _ rs => cases h; exact ⟨_, _, rfl, .inl (.inr ⟨_, h'⟩), rs⟩
  | tupK h' rs => cases h; exact ⟨_, _, rfl, .inr h', rs⟩
  | _ => cases h
def gT (n : Nat) (g : DGs) : DG := fun t sl S => match tupOf t with
  | some ts => if ts.length = n then g ts sl S else none
  | none => none
theorem lg_tup {es : List Expr} {k : Nat} {pos : Pos} {g : DGs} {n : Nat} (hc : X.calm = true) (h : LGs X es g) (hn : (assignEach es X.env).length = n := by rfl) (hst : (assignEach es X.env).findIdx? (·.1) = none := by rfl) : LG X (.Tuple es k pos) (gT n g) :=
  (pg_tup hc h hn hst).imp fun v σ H Q ⟨ρ, av, sl, S, t, hs, he, r, q⟩ => by
    unfold gT at q
    split at q
    · rename_i ts hts
      split at q
      · rename_i hl
        obtain ⟨a, vs, rfl, ha, rs⟩ := tupOf_rep r hts
        exact ⟨a, vs, rfl, ha, by rw [rs.length]; exact hl, ρ, av, sl, S, ts, hs, he, rs, q⟩
      · exact q.elim
    · exact q.elim
/-- target = e -/
def dAsg (d : DE) (g : DG) : DS := fun sl S => (d sl S).toS sl fun t S1 => match g (fz t) sl S1 with
  | some (sl', S') => .nx sl' S'
  | none => .bad
theorem ls_asg {tg e : Expr} {pos : Pos} {d : DE} {g : DG} (he : LE X W e d) (hg : LG X tg g) (hs : swapsWithSole [tg] e pos.line X.env = pure false := by rfl) (hw : swappedStores [tg] e X.env = pure none := by rfl)
    (h1 : (assignEach [tg] X.env).map (·.2) = [assign tg X.env] := by rfl) : LS X W (.Assign [tg] e pos) (dAsg d g) :=
  (ps_asg he hg hs hw h1).imp fun D σ H ⟨ρ, av, sl, S, hs, hE, q⟩ => ⟨ρ, av, sl, S, hs, hE, GoodS.expr q hE fun t S1 v H1 ρ1 e1 s1 r1 g1 => ⟨ρ1, av, sl, S1, fz t, s1.ofN, hE.ext e1, r1.toV, by
    split at g1
    · rename_i sl' S' h
      rw [h]
      exact fun σ' H' ρ' e' s r hl => g1 σ' H' ρ' (e1.trans e') s r hl
    · exact g1.elim⟩⟩

/-! o[i] = v -/
def dput (S : Sto) (d k v : T) : Option Sto := match d with
  | .ref i => match S[i]? with
    | some (.lst ts) => (match k with
      | .int z => (match ixN ts.length z with
        | some j => some (S.set i (.lst (ts.set j v)))
        | none => none)
      | _ => none)
    | some (.dK kvs) => (match keyT k with
      | some q => if kvs.length < sizeLine then some (S.set i (.dK (if (kvs.any fun kv => decide (kv.1 = q)) = true then kvs.map (fun kv => if kv.1 = q then (kv.1, v) else kv) else kvs ++ [(q, v)]))) else none
      | none => none)
    | _ => none
  | _ => none
theorem RepKd.map {κ : Type} [DecidableEq κ] {K : PySem.W.Frag} {w : World} {H : Hp} {ρ av : List Addr} {k : κ} {v : V} {t : T} (rv : RepV K w H ρ av v t) : ∀ {vs : List (κ × V)} {ts : List (κ × T)}, RepKd K w H ρ av vs ts →
    RepKd K w H ρ av (vs.map (fun kv => if kv.1 = k then (kv.1, v) else kv)) (ts.map (fun kv => if kv.1 = k then (kv.1, t) else kv))
  | _, _, .nil => .nil
  | p :: _, q :: _, .cons h rs => by
    refine .cons ?_ (RepKd.map rv rs)
    by_cases e : q.1 = k
    · have e' : p.1 = k := h.1.trans e
      simp only [e, e', if_true]
      exact ⟨trivial, rv⟩
    · have e' : ¬ p.1 = k := fun z => e (h.1.symm.trans z)
      simp only [e, e', if_false]
      exact h
theorem RepKd.app {κ : Type} {K : PySem.W.Frag} {w : World} {H : Hp} {ρ av : List Addr} {k : κ} {v : V} {t : T} (rv : RepV K w H ρ av v t) : ∀ {vs : List (κ × V)} {ts : List (κ × T)}, RepKd K w H ρ av vs ts → RepKd K w H ρ av (vs ++ [(k, v)]) (ts ++ [(k, t)])
  | _, _, .nil => .cons ⟨rfl, rv⟩ .nil
  | _, _, .cons h rs => .cons h (RepKd.app rv rs)
theorem RepKd.any {κ : Type} [DecidableEq κ] {K : PySem.W.Frag} {w : World} {H : Hp} {ρ av : List Addr} {k : κ} : ∀ {vs : List (κ × V)} {ts : List (κ × T)}, RepKd K w H ρ av vs ts → (vs.any fun kv => decide (kv.1 = k)) = ts.any fun kv => decide (kv.1 = k)
  | _, _, .nil => rfl
  | _, _, .cons h rs => by simp only [List.any_cons, h.1, RepKd.any rs]
theorem RepKd.put {κ : Type} [DecidableEq κ] {K : PySem.W.Frag} {w : World} {H : Hp} {ρ av : List Addr} {k : κ} {v : V} {t : T} (rv : RepV K w H ρ av v t) {vs : List (κ × V)} {ts : List (κ × T)} (r : RepKd K w H ρ av vs ts) :
    RepKd K w H ρ av (putK vs k v) (if (ts.any fun kv => decide (kv.1 = k)) = true then ts.map (fun kv => if kv.1 = k then (kv.1, t) else kv) else ts ++ [(k, t)]) := by
  unfold putK
  rw [RepKd.any r]
  split
  · exact RepKd.map rv r
  · exact RepKd.app rv r
def rSet2 (K : PySem.W.Frag) : TSet := fun o i v H Q => rSetL o i v H Q ∨ rSetD o i v H Q
theorem _root_.L2.PSet.or {X : Cx} {t u : TSet} (h : PSet X t) (k : PSet X u) : PSet X (fun o i v H Q => t o i v H Q ∨ u o i v H Q) := fun pins s σ H o i v ov iv u Q I ro ri rv q => q.elim (h pins s σ H o i v ov iv u Q I ro ri rv) (k pins s σ H o i v ov iv u Q I ro ri rv)
theorem set_any (hu : X.A.units + 65 < cLine) : PSet X (rSet2 X.K) := PSet.or set_list (set_dict (hu1 hu))
/-- a written store -/
theorem RepE.write {K : PySem.W.Frag} {w : World} {pn : Option Pin} {H : Hp} {ρ av : List Addr} {S : Sto} {σ : L2.St} {sl : Sl} (he : RepE K w pn H ρ av σ sl) (hs : RepS K w H ρ av S) {i : Nat} {a : Addr} (h : ρ[i]? = some a) (o : HO) : RepE K w pn (upd H a o) ρ av σ sl := he.ext (Ext.write hs h o)
theorem od_put {H : Hp} {ρ av : List Addr} {S S' : Sto} {o i v : V} {to ti tv : T} {Q : Hp → Prop} (hs : RepS X.K X.w H ρ av S) (ro : RepV X.K X.w H ρ av o to) (ri : RepV X.K X.w H ρ av i ti) (rv : RepV X.K X.w H ρ av v tv) (h : dput S to ti tv = some S')
    (q : ∀ H', Ext H ρ H' ρ → RepS X.K X.w H' ρ av S' → Q H') : rSet2 X.K o i v H Q := by
  unfold dput at h
  split at h
  · rename_i n
    cases ro with
    | @ref a _ ha =>
      obtain ⟨ob, hob, rob⟩ := hs.of_ref ha
      rw [hob] at h
      cases ob with
      | lst ts =>
        simp only at h
        split at h
        · rename_i z
          cases ri.int_inv
          split at h
          · rename_i j hj
            cases h
            obtain ⟨vs, h1, h2⟩ := rob
            refine .inl ⟨a, vs, z, j, rfl, rfl, h1, by rw [h2.length]; exact hj, q _ (Ext.write hs ha _) (hs.write ha ⟨_, upd_same, RepVs.set (rv.ext (Ext.write hs ha _)) j (h2.ext (Ext.write hs ha _))⟩)⟩
          · cases h
        · cases h
      | dK kvs =>
        simp only at h
        split at h
        · rename_i k hk
          split at h
          · rename_i hl
            cases h
            obtain ⟨vs, h1, h2⟩ := rob
            refine .inr ⟨a, _, rfl, .inl ⟨vs, k, h1, keyT_rep ri hk, by rw [Paired.length h2]; exact hl, rfl⟩, q _ (Ext.write hs ha _) (hs.write ha ⟨_, upd_same, RepKd.put (rv.ext (Ext.write hs ha _)) (h2.ext (Ext.write hs ha _))⟩)⟩
          · cases h
        · cases h
      | dT kvs => cases h
      | ins c fs => cases h
  · cases h
/-- o[i] as a target; what o and i tell must not raise -/
def gSubD (d1 d2 : DE) : DG := fun t sl S => match d1 sl S with
  | .ok o S1 => (match d2 sl S1 with
    | .ok i S2 => (match dput S2 (fz o) (fz i) t with
      | some S3 => some (sl, S3)
      | none => none)
    | _ => none)
  | _ => none
theorem lg_sub {o i : Expr} {pos : Pos} {d1 d2 : DE} (hu : X.A.units + 65 < cLine) (ho : LE X W o d1) (hi : LE X W i d2)
    (ha : ∀ v, assign (.Subscript o i pos) X.env v = (do
      let ov ← holding [v] (eval o X.env)
      let iv ← holding [v, ov] (eval i X.env)
      standAt pos
      holding [v, ov, iv] (setItem ov iv v)
      release [v, ov, iv] []) := by intro _; rfl) : LG X (.Subscript o i pos) (gSubD d1 d2) :=
  (pg_sub ho hi (set_any hu) ha).imp fun v σ H Q ⟨ρ, av, sl, S, t, hs, he, r, q⟩ => ⟨ρ, av, sl, S, hs, he, by
    unfold gSubD at q
    cases e1 : d1 sl S with
    | exc c fs S1 => rw [e1] at q; exact q.elim
    | bad => rw [e1] at q; exact q.elim
    | ok to S1 =>
      rw [e1] at q
      intro ov H1 ρ1 x1 s1 r1
      have s1 := s1.ofN
      refine ⟨ρ1, av, sl, S1, s1, he.ext x1, ?_⟩
      cases e2 : d2 sl S1 with
      | exc c fs S2 => simp only [e2] at q; exact q.elim
      | bad => simp only [e2] at q; exact q.elim
      | ok ti S2 =>
        simp only [e2] at q
        intro iv H2 ρ2 x2 s2 r2
        have s2 := s2.ofN
        cases e3 : dput S2 (fz to) (fz ti) t with
        | none => rw [e3] at q; exact q.elim
        | some S3 =>
          rw [e3] at q
          refine od_put s2 (r1.toV.ext x2) r2.toV ((r.ext x1).ext x2) e3 fun H3 x3 s3 => ?_
          exact q σ H3 ρ2 ((x1.trans x2).trans x3) s3 (((he.ext x1).ext x2).ext x3) rfl⟩

/-! x op= e -/
def dAug (i : Nat) (f : T → T → Sto → RE) (d : DE) : DS := fun sl S => match sl[i]? with
  | some (some t0) => (d sl S).toS sl fun t S1 => (f t0 (fz t) S1).toS sl fun r S2 => .nx (sl.set i (some (fz r))) S2
  | _ => .bad
theorem ls_aug {i : Nat} {st : Stmt} {r : R2} {f : T → T → Sto → RE} {d : DE} (hf : OpD X r f) (h : PS X st (tAug i (liftE X W d) r)) : LS X W st (dAug i f d) :=
  h.imp fun D σ H ⟨ρ, av, sl, S, hs, he, g⟩ => by
    unfold dAug at g
    split at g
    · rename_i t0 h0
      obtain ⟨v0, hv, r0⟩ := he.at_ i t0 h0
      refine ⟨v0, hv, ρ, av, sl, S, hs, he, GoodS.expr g he fun t S1 v H1 ρ1 e1 s1 r1 g1 => ?_⟩
      refine hf W σ H1 ρ1 av S1 v0 v t0 (fz t) _ s1.ofN (r0.ext e1) r1.toV (GoodS.expr (g1.ext e1) (he.ext e1) fun z S2 vz H2 ρ2 e2 s2 r2 g2 => ?_)
      exact g2 _ H2 ρ2 e2 s2.ofN (((he.ext e1).ext e2).set r2.toV i) (by rw [List.length_set])
    · exact g.elim
def fAddI : T → T → Sto → RE := fun x y S => match x, y with
  | .int i, .int j => .ok (.int (i + j)) S
  | .str a, .str b => if a.length + b.length ≤ sizeLine then .ok (.str (a ++ b)) S else .bad
  | _, _ => .bad
def rAddI : R2 := fun x y H Q => rI0 (fun i j => .int (i + j)) x y H Q ∨ (∃ i j, x = .str i ∧ y = .str j ∧ i.length + j.length ≤ sizeLine ∧ Q (.str (i ++ j)) H)
theorem iop_addI : OpR X (inplaceOp .Add) rAddI := iop_add.or iop_add_str
theorem od_addI : OpD X rAddI fAddI := by
  intro W σ H ρ av S x y tx ty Q hs rx ry q
  unfold fAddI at q
  split at q
  · cases rx.int_inv; cases ry.int_inv
    exact .inl ⟨_, _, rfl, rfl, q.now hs (.int _)⟩
  · cases rx.str_inv; cases ry.str_inv
    split at q
    · rename_i hl
      exact .inr ⟨_, _, rfl, rfl, hl, q.now hs (.str _)⟩
    · exact q.elim
  · exact q.elim
end
end Dn

/-! a, b = x, y and a, b, c = x, y, z with plain local names: the model stores these from the right -/
namespace Dn
open PySem PySem.Spec L2
section
variable {X : DX} {W : WX}
theorem fz_tup0 {ts : List T} : fz (.tup ts) = .tup ts := rfl
theorem asg_tup {σ : L2.St} {H : Hp} {ρ av : List Addr} {D : Ends} {sl : Sl} {S : Sto} {da : DA} {g : DG} {Q : List V → Hp → Prop} (hE : RepE X.K X.w X.pin H ρ av σ sl) (q : GoodS X W H ρ av σ.length D (dAsg (dTup da) g sl S))
    (h : ∀ ts S1 vs H1 ρ1, Ext H ρ H1 ρ1 → RepS X.K X.w H1 ρ1 av S1 → RepVs X.K X.w H1 ρ1 av vs ts → GoodS X W H ρ av σ.length D (match g (.tup ts) sl S1 with | some (sl', S') => .nx sl' S' | none => .bad) → Q vs H1) : GoodA X W σ H ρ av Q (da sl S) := by
  unfold dAsg dTup at q
  cases e : da sl S with
  | ok ts S1 =>
    rw [e] at q
    by_cases hl : ts.length ≤ sizeLine
    · have q' : GoodS X W H ρ av σ.length D ((if ts.length ≤ sizeLine then RE.ok (.tup ts) S1 else .bad).toS sl fun t S1 => match g (fz t) sl S1 with | some (sl', S') => .nx sl' S' | none => .bad) := q
      rw [if_pos hl] at q'
      exact fun vs H1 ρ1 e1 s r => h ts S1 vs H1 ρ1 e1 s r q'
    · have q' : GoodS X W H ρ av σ.length D ((if ts.length ≤ sizeLine then RE.ok (.tup ts) S1 else .bad).toS sl fun t S1 => match g (fz t) sl S1 with | some (sl', S') => .nx sl' S' | none => .bad) := q
      rw [if_neg hl] at q'
      exact q'.elim
  | exc c fs S1 =>
    rw [e] at q
    exact fun cls dd H1 ρ1 e1 s rx => q cls dd σ H1 ρ1 e1 s (hE.ext e1) rfl rx
  | bad => rw [e] at q; exact q.elim
theorem ls_par {i j : Nat} {x y : Str} {a b : Expr} {da : DA} {px py pt pos : Pos} {kt k2 : Nat} {pt2 : Pos} (hc : X.calm = true) (hN : X.N.Nodup) (hi : X.N[i]? = some x) (hj : X.N[j]? = some y)
    (hx : X.env.scope.names.lookup x = some .local) (hy : X.env.scope.names.lookup y = some .local) (ha : LA X W [a, b] da)
    (hw : swappedStores [.Tuple [.Name x px, .Name y py] kt pt] (.Tuple [a, b] k2 pt2) X.env = pure (some [x, y]))
    (hij : i ≠ j := by decide)
    (hs : swapsWithSole [.Tuple [.Name x px, .Name y py] kt pt] (.Tuple [a, b] k2 pt2) pos.line X.env = pure false := by rfl) :
    LS X W (.Assign [.Tuple [.Name x px, .Name y py] kt pt] (.Tuple [a, b] k2 pt2) pos) (dAsg (dTup da) (gT 2 (gsCons (gN i) (gsCons (gN j) gsNil)))) :=
  (ps_par hc hN hi hj hij hx hy ha hw hs).imp fun D σ H ⟨ρ, av, sl, S, hs, hE, q⟩ => ⟨ρ, av, sl, S, hs, hE, asg_tup hE q fun ts S1 vs H1 ρ1 e1 s1 r1 g1 => by
    cases r1 with
    | nil => exact g1.elim
    | @cons v t vs ts rv rvs =>
      cases rvs with
      | nil => exact g1.elim
      | @cons w u vs ts rw' rvs =>
        cases rvs with
        | @cons v3 t3 vs3 ts3 _ _ =>
          have : gT 2 (gsCons (gN i) (gsCons (gN j) gsNil)) (.tup (t :: u :: t3 :: ts3)) sl S1 = none := by
            unfold gT tupOf
            simp only
            rw [if_neg (by simp)]
          rw [this] at g1
          exact g1.elim
        | nil => exact ⟨v, w, rfl, g1 _ H1 ρ1 e1 s1 (((hE.ext e1).set rv i).set rw' j) (by rw [List.length_set, List.length_set])⟩⟩
theorem ls_par3 {i j l : Nat} {x y z : Str} {a b c : Expr} {da : DA} {px py pz pt pos : Pos} {kt k2 : Nat} {pt2 : Pos} (hc : X.calm = true) (hN : X.N.Nodup) (hi : X.N[i]? = some x) (hj : X.N[j]? = some y) (hl : X.N[l]? = some z)
    (hx : X.env.scope.names.lookup x = some .local) (hy : X.env.scope.names.lookup y = some .local) (hz : X.env.scope.names.lookup z = some .local) (ha : LA X W [a, b, c] da)
    (hw : swappedStores [.Tuple [.Name x px, .Name y py, .Name z pz] kt pt] (.Tuple [a, b, c] k2 pt2) X.env = pure (some [x, y, z]))
    (hij : i ≠ j := by decide) (hil : i ≠ l := by decide) (hjl : j ≠ l := by decide)
    (hs : swapsWithSole [.Tuple [.Name x px, .Name y py, .Name z pz] kt pt] (.Tuple [a, b, c] k2 pt2) pos.line X.env = pure false := by rfl) :
    LS X W (.Assign [.Tuple [.Name x px, .Name y py, .Name z pz] kt pt] (.Tuple [a, b, c] k2 pt2) pos) (dAsg (dTup da) (gT 3 (gsCons (gN i) (gsCons (gN j) (gsCons (gN l) gsNil))))) :=
  (ps_par3 hc hN hi hj hl hij hil hjl hx hy hz ha hw hs).imp fun D σ H ⟨ρ, av, sl, S, hs, hE, q⟩ => ⟨ρ, av, sl, S, hs, hE, asg_tup hE q fun ts S1 vs H1 ρ1 e1 s1 r1 g1 => by
    cases r1 with
    | nil => exact g1.elim
    | @cons v t vs ts rv rvs =>
      cases rvs with
      | nil => exact g1.elim
      | @cons w u vs ts rw' rvs =>
        cases rvs with
        | nil => exact g1.elim
        | @cons w2 u2 vs ts rw2 rvs =>
          cases rvs with
          | @cons v3 t3 vs3 ts3 _ _ =>
            have : gT 3 (gsCons (gN i) (gsCons (gN j) (gsCons (gN l) gsNil))) (.tup (t :: u :: u2 :: t3 :: ts3)) sl S1 = none := by
              unfold gT tupOf
              simp only
              rw [if_neg (by simp)]
            rw [this] at g1
            exact g1.elim
          | nil => exact ⟨v, w, w2, rfl, g1 _ H1 ρ1 e1 s1 ((((hE.ext e1).set rv i).set rw' j).set rw2 l) (by rw [List.length_set, List.length_set, List.length_set])⟩⟩
end
end Dn

namespace Dn
open PySem PySem.Spec L2
section
variable {X : DX} {W : WX}

end
section
variable {K : PySem.W.Frag} {w : World} {H : Hp} {ρ av av2 : List Addr}
mutual
/-- addresses that are not there as yet may be avoided -/
theorem RepV.widen (s : ∀ a ∈ av2, a ∈ av ∨ H a = none) : ∀ {v : V} {t : T}, RepV K w H ρ av v t → RepV K w H ρ av2 v t
  | _, _, .non => .non
  | _, _, .bl b => .bl b
  | _, _, .int b => .int b
  | _, _, .str b => .str b
  | _, _, .tup h hd r => .tup h hd (RepVs.widen s r)
  | _, _, .tupK h r => .tupK h (RepVs.widen s r)
  | _, _, .lst h h1 h2 r => .lst h h1 (fun z => (s _ z).elim h2 fun q => by rw [q] at h; cases h) (RepVs.widen s r)
  | _, _, .flst h r => .flst h (RepVs.widen s r)
  | _, _, .ref h => .ref h
  | _, _, .dic h h1 h2 r => .dic h h1 (fun z => (s _ z).elim h2 fun q => Rd.there h q) (RepKs.widen s r)
  | _, _, .dicK h hx r => .dicK h hx (RepKs.widen s r)
theorem RepVs.widen (s : ∀ a ∈ av2, a ∈ av ∨ H a = none) : ∀ {v : List V} {t : List T}, RepVs K w H ρ av v t → RepVs K w H ρ av2 v t
  | _, _, .nil => .nil
  | _, _, .cons r rs => .cons (RepV.widen s r) (RepVs.widen s rs)
theorem RepKs.widen (s : ∀ a ∈ av2, a ∈ av ∨ H a = none) : ∀ {v : List (Key × V)} {t : List (Key × T)}, RepKs K w H ρ av v t → RepKs K w H ρ av2 v t
  | _, _, .nil => .nil
  | _, _, .cons r rs => .cons (RepV.widen s r) (RepKs.widen s rs)
end
end
section
variable {X : DX} {W : WX}

/-! ### what is walked -/
/-- src: the list's place in the store, if it stands there (it must not change meanwhile) -/
inductive RI where
  | ok (src : Option Nat) (ts : List T) (S : Sto) | exc (c : Str) (fs : Flds) (S : Sto) | bad
abbrev DI := Sl → Sto → RI
/-- the source is as it was -/
def Still (src : Option Nat) (ts : List T) (S : Sto) : Prop := match src with
  | none => True
  | some k => S[k]? = some (.lst ts)
def ItRep (K : PySem.W.Frag) (w : World) (J : It) (src : Option Nat) (ts : List T) (H : Hp) (ρ av : List Addr) : Prop :=
  ∀ av2, (∀ a ∈ av2, a ∈ av ∨ H a = none) → ∀ H2 ρ2 S2, Ext H ρ H2 ρ2 → RepS K w H2 ρ2 av2 S2 → Still src ts S2 → ∀ i : Nat,
    (∀ t, ts[i]? = some t → J.go i H2 ∧ ∀ x H3, J.yld i H2 x H3 → Ext H2 ρ2 H3 ρ2 ∧ RepS K w H3 ρ2 av2 S2 ∧ RepV K w H3 ρ2 av2 x t) ∧ (i = ts.length → J.stop i H2)
def GoodI (X : DX) (W : WX) (σ : L2.St) (H : Hp) (ρ av : List Addr) (R : It → Hp → Prop) : RI → Prop
  | .ok src ts S' => ∀ J H' ρ', Ext H ρ H' ρ' → RepS X.K X.w H' ρ' av S' → Still src ts S' → ItRep X.K X.w J src ts H' ρ' av → R J H'
  | .exc c fs S' => ∀ cls dd H' ρ', Ext H ρ H' ρ' → RepS X.K X.w H' ρ' av S' → RepX X.K X.w H' ρ' av X.mg cls dd c fs → W cls dd σ H'
  | .bad => False
def liftI (X : DX) (W : WX) (d : DI) : TI := fun σ H R => ∃ ρ av sl S, RepS X.K X.w H ρ av S ∧ RepE X.K X.w X.pin H ρ av σ sl ∧ GoodI X W σ H ρ av R (d sl S)
abbrev LI (X : DX) (W : WX) (tg iter : Expr) (d : DI) : Prop := PI X tg iter (liftI X W d)
theorem _root_.L2.PI.imp {X : Cx} {tg e : Expr} {t t' : TI} (h : PI X tg e t) (f : ∀ σ H R, t' σ H R → t σ H R) : PI X tg e t' := ⟨fun pins s σ H R I q => h.run pins s σ H R I (f σ H R q)⟩
theorem _root_.L2.PI.or {X : Cx} {tg e : Expr} {t u : TI} (h : PI X tg e t) (k : PI X tg e u) : PI X tg e (fun σ H R => t σ H R ∨ u σ H R) := ⟨fun pins s σ H R I q => q.elim (h.run pins s σ H R I) (k.run pins s σ H R I)⟩
/-- the signs of a text -/
def signs (x : Str) : List T := x.cps.toList.map fun c => .str ⟨#[c]⟩
def itOf (S : Sto) : T → Option (Option Nat × List T)
  | .tup ts => some (none, ts)
  | .ktup ts => some (none, ts)
  | .lst ts => some (none, ts)
  | .flst ts => some (none, ts)
  | .str x => some (none, signs x)
  | .ref k => match S[k]? with
    | some (.lst ts) => some (some k, ts)
    | _ => none
  | _ => none
def dIt (d : DE) : DI := fun sl S => match d sl S with
  | .ok t S1 => (match itOf S1 (fz t) with
    | some (src, ts) => .ok src ts S1
    | none => .bad)
  | .exc c fs S1 => .exc c fs S1
  | .bad => .bad
theorem itl_rep {K : PySem.W.Frag} {w : World} {H : Hp} {ρ av : List Addr} {a : Addr} {src : Option Nat} {ts : List T} (h : ∀ av2, (∀ a ∈ av2, a ∈ av ∨ H a = none) → ∀ H2 ρ2 S2, Ext H ρ H2 ρ2 → RepS K w H2 ρ2 av2 S2 → Still src ts S2 → ∃ vs, SqL K H2 a vs ∧ RepVs K w H2 ρ2 av2 vs ts) : ItRep K w (Itl K a) src ts H ρ av := by
  intro av2 ha2 H2 ρ2 S2 e s st i
  obtain ⟨vs, hq, rs⟩ := h av2 ha2 H2 ρ2 S2 e s st
  refine ⟨fun t ht => ?_, fun hi => ⟨vs, hq, by rw [rs.length, hi]; exact Nat.le_refl _⟩⟩
  obtain ⟨v, hv, rv⟩ := rs.get ht
  refine ⟨⟨vs, v, hq, hv⟩, fun x H3 y => ?_⟩
  obtain ⟨e1, y⟩ := y
  subst e1
  have := y vs hq
  rw [hv] at this; cases this
  exact ⟨Ext.refl _ _, s, rv⟩
theorem itt_rep {K : PySem.W.Frag} {w : World} {H : Hp} {ρ av : List Addr} {a : Addr} {ts : List T} (h : ∀ av2, (∀ a ∈ av2, a ∈ av ∨ H a = none) → ∀ H2 ρ2, Ext H ρ H2 ρ2 → ∃ vs, SqT K H2 a vs ∧ RepVs K w H2 ρ2 av2 vs ts) : ItRep K w (Itt K a) none ts H ρ av := by
  intro av2 ha2 H2 ρ2 S2 e s st i
  obtain ⟨vs, hq, rs⟩ := h av2 ha2 H2 ρ2 e
  refine ⟨fun t ht => ?_, fun hi => ⟨vs, hq, by rw [rs.length, hi]; exact Nat.le_refl _⟩⟩
  obtain ⟨v, hv, rv⟩ := rs.get ht
  refine ⟨⟨vs, v, hq, hv⟩, fun x H3 y => ?_⟩
  obtain ⟨e1, y⟩ := y
  subst e1
  have := y vs hq
  rw [hv] at this; cases this
  exact ⟨Ext.refl _ _, s, rv⟩
theorem its_rep {K : PySem.W.Frag} {w : World} {H : Hp} {ρ av : List Addr} {x : Str} : ItRep K w (Its x) none (signs x) H ρ av := by
  intro av2 ha2 H2 ρ2 S2 e s st i
  have hl : (signs x).length = x.cps.size := by simp [signs]
  refine ⟨fun t ht => ?_, fun hi => by show x.cps.size ≤ i; omega⟩
  have hi : i < x.cps.size := by rw [← hl]; exact (List.getElem?_eq_some_iff.mp ht).1
  refine ⟨hi, fun y H3 yl => ?_⟩
  obtain ⟨e1, c, hc, ey⟩ := yl
  subst e1 ey
  have : t = .str ⟨#[c]⟩ := by
    unfold signs at ht
    rw [List.getElem?_map, Array.getElem?_toList, hc] at ht
    exact (Option.some.inj ht).symm
  subst this
  exact ⟨Ext.refl _ _, s, .str _⟩
theorem li_seq {tg e : Expr} {d : DE} (h : LE X W e d) : LI X W tg e (dIt d) :=
  (PI.or (pi_list h) (PI.or (pi_tup h) (pi_str h))).imp fun σ H R ⟨ρ, av, sl, S, hs, he, g⟩ => by
    unfold dIt at g
    cases hd : d sl S with
    | exc c fs S1 => rw [hd] at g; exact .inl ⟨ρ, av, sl, S, hs, he, by rw [hd]; exact g⟩
    | bad => rw [hd] at g; exact g.elim
    | ok t S1 =>
      rw [hd] at g
      simp only at g
      cases hi : itOf S1 (fz t) with
      | none => rw [hi] at g; exact g.elim
      | some p =>
        obtain ⟨src, ts⟩ := p
        rw [hi] at g
        cases ht : fz t with
        | tup us =>
          rw [ht] at hi; cases hi
          refine .inr (.inl ⟨ρ, av, sl, S, hs, he, ?_⟩)
          rw [hd]
          intro v H1 ρ1 e1 s1 r1
          have rv := r1.toV
          rw [ht] at rv
          obtain ⟨a, vs, rfl, hq, rs⟩ := tup_rep rv
          refine ⟨a, rfl, ⟨vs, hq⟩, g _ H1 ρ1 e1 s1.ofN trivial (itt_rep fun av2 ha2 H2 ρ2 e2 => ⟨vs, ?_, (rs.widen ha2).ext e2⟩)⟩
          rcases hq with hq | hq
          · exact .inl (e2.rd_tup hq)
          · exact .inr hq
        | ktup us =>
          rw [ht] at hi; cases hi
          refine .inr (.inl ⟨ρ, av, sl, S, hs, he, ?_⟩)
          rw [hd]
          intro v H1 ρ1 e1 s1 r1
          have rv := r1.toV
          rw [ht] at rv
          obtain ⟨a, vs, rfl, hq, rs⟩ := tupOf_rep rv rfl
          refine ⟨a, rfl, ⟨vs, hq⟩, g _ H1 ρ1 e1 s1.ofN trivial (itt_rep fun av2 ha2 H2 ρ2 e2 => ⟨vs, ?_, (rs.widen ha2).ext e2⟩)⟩
          rcases hq with hq | hq
          · exact .inl (e2.rd_tup hq)
          · exact .inr hq
        | lst us =>
          rw [ht] at hi; cases hi
          refine .inl ⟨ρ, av, sl, S, hs, he, ?_⟩
          rw [hd]
          intro v H1 ρ1 e1 s1 r1
          have rv := r1.toV
          rw [ht] at rv
          cases rv with
          | @lst a vs _ h0 h1 h2 rs =>
            refine ⟨a, rfl, ⟨vs, .inl (.inl h0)⟩, g _ H1 ρ1 e1 s1.ofN trivial (itl_rep fun av2 ha2 H2 ρ2 S2 e2 _ _ => ⟨vs, .inl (.inl (e2.keep _ _ h1 h0)), (rs.widen ha2).ext e2⟩)⟩
        | flst us =>
          rw [ht] at hi; cases hi
          refine .inl ⟨ρ, av, sl, S, hs, he, ?_⟩
          rw [hd]
          intro v H1 ρ1 e1 s1 r1
          have rv := r1.toV
          rw [ht] at rv
          cases rv with
          | @flst a vs _ h0 rs =>
            refine ⟨a, rfl, ⟨vs, h0.elim (fun ⟨o, q⟩ => .inl (.inr ⟨o, q⟩)) .inr⟩, g _ H1 ρ1 e1 s1.ofN trivial (itl_rep fun av2 ha2 H2 ρ2 S2 e2 _ _ => ⟨vs, h0.elim (fun ⟨o, q⟩ => .inl (.inr ⟨o, e2.imm _ _ trivial q⟩)) .inr, (rs.widen ha2).ext e2⟩)⟩
        | str x =>
          rw [ht] at hi; cases hi
          refine .inr (.inr ⟨ρ, av, sl, S, hs, he, ?_⟩)
          rw [hd]
          intro v H1 ρ1 e1 s1 r1
          have rv := r1.toV
          rw [ht] at rv
          cases rv
          exact ⟨x, rfl, g _ H1 ρ1 e1 s1.ofN trivial its_rep⟩
        | ref k =>
          rw [ht] at hi
          simp only [itOf] at hi
          split at hi
          · rename_i us hk
            cases hi
            refine .inl ⟨ρ, av, sl, S, hs, he, ?_⟩
            rw [hd]
            intro v H1 ρ1 e1 s1 r1
            have rv := r1.toV
            have s1' := s1.ofN
            rw [ht] at rv
            cases rv with
            | @ref a _ ha =>
              obtain ⟨o, ho, ro⟩ := s1'.of_ref ha
              rw [hk] at ho; cases ho
              obtain ⟨vs, h0, rs⟩ := ro
              refine ⟨a, rfl, ⟨vs, .inl (.inl h0)⟩, g _ H1 ρ1 e1 s1' hk (itl_rep fun av2 ha2 H2 ρ2 S2 e2 s2 st => ?_)⟩
              have ha2 : ρ2[k]? = some a := by
                obtain ⟨n, q⟩ := e2.pre
                rw [q, List.getElem?_append_left (List.getElem?_eq_some_iff.mp ha).1]; exact ha
              obtain ⟨o, ho, ro⟩ := s2.of_ref ha2
              have st' : S2[k]? = some (.lst ts) := st
              rw [st'] at ho; cases ho
              obtain ⟨vs2, g0, rs2⟩ := ro
              exact ⟨vs2, .inl (.inl g0), rs2⟩
          · cases hi
        | _ => rw [ht] at hi; cases hi
/-- lo, lo + 1, .. -/
def upto (lo : Int) (n : Nat) : List T := (List.range n).map fun k => .int (lo + (k : Nat))
theorem itr_rep {K : PySem.W.Frag} {w : World} {H : Hp} {ρ av : List Addr} {lo : Int} {n : Nat} : ItRep K w (Itr lo n) none (upto lo n) H ρ av := by
  intro av2 ha2 H2 ρ2 S2 e s st i
  have hl : (upto lo n).length = n := by simp [upto]
  refine ⟨fun t ht => ?_, fun hi => by show n ≤ i; omega⟩
  have hi : i < n := by rw [← hl]; exact (List.getElem?_eq_some_iff.mp ht).1
  refine ⟨hi, fun y H3 yl => ?_⟩
  obtain ⟨e1, ey⟩ := yl
  subst e1 ey
  have : t = .int (lo + i) := by
    unfold upto at ht
    rw [List.getElem?_map, List.getElem?_range hi] at ht
    exact (Option.some.inj ht).symm
  subst this
  exact ⟨Ext.refl _ _, s, .int _⟩
def dRng1 (d : DA) : DI := fun sl S => match d sl S with
  | .ok ts S1 => (match ts with
    | [.int j] => if -(2 ^ 62) ≤ j ∧ j < 2 ^ 62 then .ok none (upto 0 j.toNat) S1 else .bad
    | _ => .bad)
  | .exc c fs S1 => .exc c fs S1
  | .bad => .bad
def dRng2 (d : DA) : DI := fun sl S => match d sl S with
  | .ok ts S1 => (match ts with
    | [.int i, .int j] => if -(2 ^ 62) ≤ i ∧ i < 2 ^ 62 ∧ -(2 ^ 62) ≤ j ∧ j < 2 ^ 62 then .ok none (upto i (j - i).toNat) S1 else .bad
    | _ => .bad)
  | .exc c fs S1 => .exc c fs S1
  | .bad => .bad
theorem li_rng1 {tg a : Expr} {p pos : Pos} {d : DA} (hg : Gl X "range") (hm : X.mg "range" = none) (ha : LA X W [a] d) (hs : starEach [a] X.env = [(false, eval a X.env)] := by rfl) : LI X W tg (.Call (.Name "range" p) [a] [] pos) (dRng1 d) :=
  (pi_range1 hg hm ha hs).imp fun σ H R ⟨ρ, av, sl, S, hs', he, g⟩ => ⟨ρ, av, sl, S, hs', he, by
    unfold dRng1 at g
    cases hd : d sl S with
    | exc c fs S1 => rw [hd] at g; exact g
    | bad => rw [hd] at g; exact g
    | ok ts S1 =>
      rw [hd] at g
      simp only at g
      intro vs H1 ρ1 e1 s1 r1
      split at g
      · rename_i j
        cases r1 with
        | cons ra rr =>
          cases rr
          cases ra.int_inv
          split at g
          · rename_i c
            exact ⟨j, rfl, c.1, c.2, g _ H1 ρ1 e1 s1 trivial itr_rep⟩
          · exact g.elim
      · exact g.elim⟩
theorem li_rng2 {tg a b : Expr} {p pos : Pos} {d : DA} (hg : Gl X "range") (hm : X.mg "range" = none) (ha : LA X W [a, b] d) (hs : starEach [a, b] X.env = [(false, eval a X.env), (false, eval b X.env)] := by rfl) (hs2 : starEach [b] X.env = [(false, eval b X.env)] := by rfl) : LI X W tg (.Call (.Name "range" p) [a, b] [] pos) (dRng2 d) :=
  (pi_range2 hg hm ha hs hs2).imp fun σ H R ⟨ρ, av, sl, S, hs', he, g⟩ => ⟨ρ, av, sl, S, hs', he, by
    unfold dRng2 at g
    cases hd : d sl S with
    | exc c fs S1 => rw [hd] at g; exact g
    | bad => rw [hd] at g; exact g
    | ok ts S1 =>
      rw [hd] at g
      simp only at g
      intro vs H1 ρ1 e1 s1 r1
      split at g
      · rename_i i j
        cases r1 with
        | cons ra rr =>
          cases rr with
          | cons rb rr =>
            cases rr
            cases ra.int_inv
            cases rb.int_inv
            split at g
            · rename_i c
              exact ⟨i, j, rfl, c, g _ H1 ρ1 e1 s1 trivial itr_rep⟩
            · exact g.elim
      · exact g.elim⟩
/-- lo, lo + c, .. -/
def stepT (lo c : Int) (n : Nat) : List T := (List.range n).map fun k => .int (lo + (k : Nat) * c)
theorem itc_rep {K : PySem.W.Frag} {w : World} {H : Hp} {ρ av : List Addr} {lo c : Int} {n : Nat} : ItRep K w (Itc lo c n) none (stepT lo c n) H ρ av := by
  intro av2 ha2 H2 ρ2 S2 e s st i
  have hl : (stepT lo c n).length = n := by simp [stepT]
  refine ⟨fun t ht => ?_, fun hi => by show n ≤ i; omega⟩
  have hi : i < n := by rw [← hl]; exact (List.getElem?_eq_some_iff.mp ht).1
  refine ⟨hi, fun y H3 yl => ?_⟩
  obtain ⟨e1, ey⟩ := yl
  subst e1 ey
  have : t = .int (lo + i * c) := by
    unfold stepT at ht
    rw [List.getElem?_map, List.getElem?_range hi] at ht
    exact (Option.some.inj ht).symm
  subst this
  exact ⟨Ext.refl _ _, s, .int _⟩

/-! ### for -/
open Classical in
noncomputable def forL (src : Option Nat) (all : List T) (g : DG) (body : DS) : List T → Sl → Sto → RS
  | [], sl, S => if Still src all S then .nx sl S else .bad
  | t :: ts, sl, S => if Still src all S then (match g t sl S with
    | some (sl1, S1) => (match body sl1 S1 with
      | .nx sl2 S2 => forL src all g body ts sl2 S2
      | .ct sl2 S2 => forL src all g body ts sl2 S2
      | .bk sl2 S2 => .nx sl2 S2
      | r => r)
    | none => .bad) else .bad
noncomputable def dFor (i : DI) (g : DG) (body : DS) : DS := fun sl S => match i sl S with
  | .ok src ts S1 => forL src ts g body ts sl S1
  | .exc c fs S1 => .exc c fs sl S1
  | .bad => .bad
theorem ls_for {tg iter : Expr} {body : List Stmt} {pos : Pos} {di : DI} {g : DG} {db : DS} (hp : PassesOwn (model X.prog X.w) X.A X.env X.xe) (hc : X.calm = true) (hi : LI X W tg iter di) (hg : LG X tg g) (hb : LSs X W body db)
    (hs : ∀ x, foldedSetIterable iter X.env x = pure x := by intro _; rfl) : LS X W (.For tg iter body [] pos) (dFor di g db) :=
  (ps_for hp hc hi hg hb hs).imp fun D σ H ⟨ρ, av, sl, S, hs', he, q⟩ => ⟨ρ, av, sl, S, hs', he, by
    unfold dFor at q
    cases hd : di sl S with
    | exc c fs S1 => rw [hd] at q; exact fun cls dd H1 ρ1 e1 s1 rx => q cls dd σ H1 ρ1 e1 s1 (he.ext e1) rfl rx
    | bad => rw [hd] at q; exact q.elim
    | ok src ts S1 =>
      rw [hd] at q
      intro J H1 ρ1 e1 s1 st1 it
      refine ⟨fun i m σ2 H2 => ∃ ρ2 sl2 S2, Ext H1 ρ1 H2 ρ2 ∧ RepS X.K X.w H2 ρ2 av S2 ∧ RepE X.K X.w X.pin H2 ρ2 av σ2 sl2 ∧ σ2.length = σ.length ∧ m = ts.length - i ∧ i ≤ ts.length ∧ GoodS X W H2 ρ2 av σ.length D (forL src ts g db (ts.drop i) sl2 S2),
        ⟨ts.length, ρ1, sl, S1, Ext.refl _ _, s1, he.ext e1, rfl, by simp, Nat.zero_le _, by rw [List.drop_zero]; exact q.ext e1⟩, ?_⟩
      rintro i m σ2 H2 ⟨ρ2, sl2, S2, e2, s2, r2, hl, rfl, hle, q2⟩
      by_cases hlt : i < ts.length
      · have hdrop : ts.drop i = ts[i] :: ts.drop (i + 1) := List.drop_eq_getElem_cons hlt
        rw [hdrop] at q2
        unfold forL at q2
        split at q2
        · rename_i st2
          obtain ⟨go, yl⟩ := (it av (fun _ h => .inl h) H2 ρ2 S2 e2 s2 st2 i).1 ts[i] (List.getElem?_eq_getElem hlt)
          refine .inr ⟨go, fun σ3 H3 => ∃ ρ3 sl3 S3, Ext H1 ρ1 H3 ρ3 ∧ RepS X.K X.w H3 ρ3 av S3 ∧ RepE X.K X.w X.pin H3 ρ3 av σ3 sl3 ∧ σ3.length = σ.length ∧ GoodS X W H3 ρ3 av σ.length D (forL src ts g db (ts.drop (i + 1)) sl3 S3),
            fun σ3 H3 ⟨ρ3, sl3, S3, e3, s3, r3, hl3, q3⟩ => ⟨ts.length - (i + 1), by omega, ρ3, sl3, S3, e3, s3, r3, hl3, rfl, hlt, q3⟩, fun x H3 y => ?_⟩
          obtain ⟨x3, s3, rv⟩ := yl x H3 y
          refine ⟨ρ2, av, sl2, S2, ts[i], s3, r2.ext x3, rv, ?_⟩
          have e3 := e2.trans x3
          replace q2 := q2.ext x3
          rw [hl]
          cases hg' : g ts[i] sl2 S2 with
          | none => rw [hg'] at q2; exact q2.elim
          | some p =>
            rw [hg'] at q2
            simp only at q2
            intro σ4 H4 ρ4 x4 s4 r4 hl4
            refine ⟨ρ4, av, p.1, p.2, s4, r4, ?_⟩
            replace q2 := q2.ext x4
            have e4 := e3.trans x4
            rw [hl4]
            cases hb' : db p.1 p.2 with
            | nx sl5 S5 => rw [hb'] at q2; exact fun σ5 H5 ρ5 x5 s5 r5 hl5 => ⟨ρ5, sl5, S5, e4.trans x5, s5, r5, hl5, q2.ext x5⟩
            | ct sl5 S5 => rw [hb'] at q2; exact fun σ5 H5 ρ5 x5 s5 r5 hl5 => ⟨ρ5, sl5, S5, e4.trans x5, s5, r5, hl5, q2.ext x5⟩
            | bk sl5 S5 => rw [hb'] at q2; exact q2
            | rt t5 S5 => rw [hb'] at q2; exact q2
            | exc c fs sl5 S5 => rw [hb'] at q2; exact q2
            | bad => rw [hb'] at q2; exact q2
        · exact q2.elim
      · have e : i = ts.length := by omega
        rw [List.drop_eq_nil_of_le (by omega)] at q2
        unfold forL at q2
        split at q2
        · rename_i st2
          exact .inl ⟨(it av (fun _ h => .inl h) H2 ρ2 S2 e2 s2 st2 i).2 e, q2 σ2 H2 ρ2 (Ext.refl _ _) s2 r2 hl⟩
        · exact q2.elim⟩

/-! ### while: FUEL turns at most -/
def FUEL : Nat := 2 ^ 64
def whileN (c : DB) (b : DS) : Nat → Sl → Sto → RS
  | 0, _, _ => .bad
  | n + 1, sl, S => (c sl S).toS sl fun k S1 => if k then (match b sl S1 with
      | .nx sl2 S2 => whileN c b n sl2 S2
      | .ct sl2 S2 => whileN c b n sl2 S2
      | .bk sl2 S2 => .nx sl2 S2
      | r => r) else .nx sl S1
def dWhile (c : DB) (b : DS) : DS := fun sl S => whileN c b FUEL sl S
theorem ls_while {c : Expr} {body : List Stmt} {pos : Pos} {dc : DB} {db : DS} (hp : PassesOwn (model X.prog X.w) X.A X.env X.xe) (hc : LT X W c dc) (hb : LSs X W body db) : LS X W (.While c body [] pos) (dWhile dc db) :=
  (ps_while hp hc hb).imp fun D σ H ⟨ρ, av, sl, S, hs', he, q⟩ => by
    refine ⟨fun m σ2 H2 => ∃ ρ2 sl2 S2, Ext H ρ H2 ρ2 ∧ RepS X.K X.w H2 ρ2 av S2 ∧ RepE X.K X.w X.pin H2 ρ2 av σ2 sl2 ∧ σ2.length = σ.length ∧ GoodS X W H2 ρ2 av σ.length D (whileN dc db m sl2 S2), ⟨FUEL, ρ, sl, S, Ext.refl _ _, hs', he, rfl, q⟩, ?_⟩
    rintro m σ2 H2 ⟨ρ2, sl2, S2, e2, s2, r2, hl, q2⟩
    cases m with
    | zero => exact q2.elim
    | succ m =>
      unfold whileN at q2
      rw [← hl] at q2
      refine ⟨ρ2, av, sl2, S2, s2, r2, GoodS.test q2 r2 fun k S3 H3 ρ3 e3 s3 q3 => ?_⟩
      rw [hl] at q3
      cases k with
      | false =>
        rw [if_neg Bool.false_ne_true] at q3 ⊢
        exact q3 σ2 H3 ρ3 (Ext.refl _ _) s3 (r2.ext e3) hl
      | true =>
        rw [if_pos rfl] at q3 ⊢
        refine ⟨fun σ4 H4 => ∃ ρ4 sl4 S4, Ext H ρ H4 ρ4 ∧ RepS X.K X.w H4 ρ4 av S4 ∧ RepE X.K X.w X.pin H4 ρ4 av σ4 sl4 ∧ σ4.length = σ.length ∧ GoodS X W H4 ρ4 av σ.length D (whileN dc db m sl4 S4), fun σ4 H4 h4 => ⟨m, Nat.lt_succ_self _, h4⟩, ρ3, av, sl2, S3, s3, r2.ext e3, ?_⟩
        rw [hl]
        have e3' := e2.trans e3
        cases hb' : db sl2 S3 with
        | nx sl5 S5 => rw [hb'] at q3; exact fun σ5 H5 ρ5 x5 s5 r5 hl5 => ⟨ρ5, sl5, S5, e3'.trans x5, s5, r5, hl5, q3.ext x5⟩
        | ct sl5 S5 => rw [hb'] at q3; exact fun σ5 H5 ρ5 x5 s5 r5 hl5 => ⟨ρ5, sl5, S5, e3'.trans x5, s5, r5, hl5, q3.ext x5⟩
        | bk sl5 S5 => rw [hb'] at q3; exact q3
        | rt t5 S5 => rw [hb'] at q3; exact q3
        | exc c fs sl5 S5 => rw [hb'] at q3; exact q3
        | bad => rw [hb'] at q3; exact q3
end
end Dn

namespace Dn
open PySem PySem.Spec L2
abbrev W0 : WX := fun _ _ _ _ => False
section
variable {X : DX} {W : WX}

/-! ### targets of a comprehension: names alone; what they leave as it was -/
def GoodC (X : DX) (js : List Nat) (σ : L2.St) (H : Hp) (ρ av : List Addr) (Q : L2.St → Hp → Prop) : Option (Sl × Sto) → Prop
  | some (sl', S') => ∀ σ' H' ρ', Ext H ρ H' ρ' → RepS X.K X.w H' ρ' av S' → RepE X.K X.w X.pin H' ρ' av σ' sl' → σ'.length = σ.length → (∀ k : Nat, k ∉ js → σ'[k]? = σ[k]?) → Q σ' H'
  | none => False
def liftC (X : DX) (js : List Nat) (d : DG) : TG := fun v σ H Q => ∃ ρ av sl S t, RepS X.K X.w H ρ av S ∧ RepE X.K X.w X.pin H ρ av σ sl ∧ RepV X.K X.w H ρ av v t ∧ GoodC X js σ H ρ av Q (d t sl S)
def liftCs (X : DX) (js : List Nat) (d : DGs) : TGs := fun vs σ H Q => ∃ ρ av sl S ts, RepS X.K X.w H ρ av S ∧ RepE X.K X.w X.pin H ρ av σ sl ∧ RepVs X.K X.w H ρ av vs ts ∧ GoodC X js σ H ρ av Q (d ts sl S)
abbrev LC (X : DX) (js : List Nat) (e : Expr) (d : DG) : Prop := PG X e (liftC X js d)
abbrev LCs (X : DX) (js : List Nat) (es : List Expr) (d : DGs) : Prop := PGs X es (liftCs X js d)
theorem lc_name {e : Expr} {i : Nat} {js : List Nat} (h : PG X e (gName i)) (hj : i ∈ js := by simp) : LC X js e (gN i) := h.imp fun v σ H Q ⟨ρ, av, sl, S, t, hs, he, r, g⟩ =>
  g _ H ρ (Ext.refl _ _) hs (he.set r i) (by rw [List.length_set]) fun k hk => by rw [List.getElem?_set_ne (fun z : i = k => hk (by rw [← z]; exact hj))]
theorem lcs_nil {js : List Nat} : LCs X js [] gsNil := pgs_nil.imp fun vs σ H Q ⟨ρ, av, sl, S, ts, hs, he, r, g⟩ => by
  cases r with
  | nil => exact ⟨rfl, g σ H ρ (Ext.refl _ _) hs he rfl fun _ _ => rfl⟩
  | cons _ _ => exact g.elim
theorem lcs_cons {js : List Nat} {e : Expr} {es : List Expr} {g : DG} {r : DGs} (h1 : LC X js e g) (h2 : LCs X js es r) (hs : (assignEach (e :: es) X.env).map (·.2) = assign e X.env :: (assignEach es X.env).map (·.2) := by rfl) : LCs X js (e :: es) (gsCons g r) :=
  (pgs_cons h1 h2 hs).imp fun vs σ H Q ⟨ρ, av, sl, S, ts, hs, he, rv, q⟩ => by
    cases rv with
    | nil => exact q.elim
    | @cons v t vs ts rv rvs =>
      refine ⟨v, vs, rfl, ρ, av, sl, S, t, hs, he, rv, ?_⟩
      unfold gsCons at q
      simp only at q
      cases e1 : g t sl S with
      | none => rw [e1] at q; exact q.elim
      | some p =>
        rw [e1] at q
        intro σ' H' ρ' e' s' r' hl ag
        refine ⟨ρ', av, p.1, p.2, ts, s', r', rvs.ext e', ?_⟩
        simp only at q
        cases e2 : r ts p.1 p.2 with
        | none => rw [e2] at q; exact q.elim
        | some p2 =>
          rw [e2] at q
          exact fun σ2 H2 ρ2 x2 s2 r2 hl2 ag2 => q σ2 H2 ρ2 (e'.trans x2) s2 r2 (hl2.trans hl) fun k hk => (ag2 k hk).trans (ag k hk)
theorem lc_tup {js : List Nat} {es : List Expr} {k : Nat} {pos : Pos} {g : DGs} {n : Nat} (hc : X.calm = true) (h : LCs X js es g) (hn : (assignEach es X.env).length = n := by rfl) (hst : (assignEach es X.env).findIdx? (·.1) = none := by rfl) : LC X js (.Tuple es k pos) (gT n g) :=
  (pg_tup hc h hn hst).imp fun v σ H Q ⟨ρ, av, sl, S, t, hs, he, r, q⟩ => by
    unfold gT at q
    split at q
    · rename_i ts hts
      split at q
      · rename_i hl
        obtain ⟨a, vs, rfl, ha, rs⟩ := tupOf_rep r hts
        exact ⟨a, vs, rfl, ha, by rw [rs.length]; exact hl, ρ, av, sl, S, ts, hs, he, rs, q⟩
      · exact q.elim
    · exact q.elim

/-! ### a comprehension -/
def wipeT (sl : Sl) : List Nat → Sl
  | [] => sl
  | v :: vs => (wipeT sl vs).set v none
theorem wipe_rep {K : PySem.W.Frag} {w : World} {pn : Option Pin} {H : Hp} {ρ av : List Addr} {σ : L2.St} {sl : Sl} (he : RepE K w pn H ρ av σ sl) : ∀ vs : List Nat, (∀ p, pn = some p → p.i ∉ vs) → RepE K w pn H ρ av (wipe σ vs) (wipeT sl vs)
  | [], _ => he
  | v :: vs, hv => by
    have ih := wipe_rep he vs fun p hp z => hv p hp (List.mem_cons_of_mem _ z)
    unfold wipe wipeT
    refine ⟨by rw [List.length_set, List.length_set]; exact ih.len, fun i t h => ?_, fun p hp => ?_⟩
    rotate_left
    · obtain ⟨h1, h2, h3, h4, h5⟩ := ih.pin p hp
      have hj : v ≠ p.i := fun z => hv p hp (by rw [z]; exact List.mem_cons_self)
      refine ⟨h1, h2, h3, h4, fun z => ?_⟩
      rw [List.getElem?_set_ne hj] at z ⊢; exact h5 z
    by_cases hi : v = i
    · subst hi
      have hl := (List.getElem?_eq_some_iff.mp h).1
      rw [List.length_set] at hl
      rw [List.getElem?_set_self hl] at h
      cases h
    · rw [List.getElem?_set_ne hi] at h
      obtain ⟨x, h1, h2⟩ := ih.at_ i t h
      exact ⟨x, by rw [List.getElem?_set_ne hi]; exact h1, h2⟩
theorem wipe_get {σ : L2.St} {k : Nat} : ∀ {vs : List Nat}, k ∈ vs → k < σ.length → (wipe σ vs)[k]? = some none
  | [], h, _ => nomatch h
  | v :: vs, h, hl => by
    unfold wipe
    by_cases e : v = k
    · subst e
      rw [List.getElem?_set_self (by rw [wipe_length]; exact hl)]
    · rw [List.getElem?_set_ne e]
      exact wipe_get ((List.mem_cons.mp h).resolve_left fun q => e q.symm) hl
theorem wipe_same {σ σ2 : L2.St} {vs : List Nat} (hl : σ2.length = (wipe σ vs).length) (ag : ∀ k : Nat, k ∉ vs → σ2[k]? = (wipe σ vs)[k]?) : wipe σ2 vs = wipe σ vs := by
  rw [wipe_length] at hl
  apply List.ext_getElem?
  intro k
  by_cases hk : k ∈ vs
  · by_cases hb : k < σ.length
    · rw [wipe_get hk (by omega), wipe_get hk hb]
    · rw [List.getElem?_eq_none (by rw [wipe_length]; omega), List.getElem?_eq_none (by rw [wipe_length]; omega)]
  · rw [wipe_out hk]
    exact ag k hk
/-- the tests -/
abbrev LTs (X : DX) (W : WX) (ifs : List Expr) (d : DB) : Prop := PTs X ifs (liftB X W d)
def dYes : DB := fun _ S => .ok true S
theorem lts_nil : LTs X W [] dYes := ⟨fun pins s σ H Q I ⟨ρ, av, sl, S, hs, he, g⟩ => pts_nil.run pins s σ H Q I (g H ρ (Ext.refl _ _) hs)⟩
theorem lts_one {c : Expr} {d : DB} (h : LT X W c d) : LTs X W [c] d := pts_one h
open Classical in
noncomputable def lcL (src : Option Nat) (all : List T) (g : DG) (dt : DB) (de : DE) (slw : Sl) : List T → List T → Sto → RE
  | [], acc, S => if Still src all S then .ok (.nlst acc) S else .bad
  | t :: ts, acc, S => if Still src all S then (match g t slw S with
    | some (sl1, S1) => (match dt sl1 S1 with
      | .ok true S2 => (match de sl1 S2 with
        | .ok y S3 => if acc.length < sizeLine then lcL src all g dt de slw ts (acc ++ [fz y]) S3 else .bad
        | _ => .bad)
      | .ok false S2 => lcL src all g dt de slw ts acc S2
      | _ => .bad)
    | none => .bad) else .bad
noncomputable def dLc (i : DI) (g : DG) (dt : DB) (de : DE) (vs : List Nat) : DE := fun sl S => match i sl S with
  | .ok src ts S1 => lcL src ts g dt de (wipeT sl vs) ts [] S1
  | .exc c fs S1 => .exc c fs S1
  | .bad => .bad
theorem Ext.through {H1 H4 : Hp} {ρ1 ρ4 : List Addr} {D : Addr} (e : Ext H1 ρ1 H4 ρ4) (hD : H1 D = none) (o : HO) : Ext H1 ρ1 (upd H4 D o) ρ4 := by
  have ne : ∀ a u, H1 a = some u → a ≠ D := fun a u h z => by rw [z, hD] at h; cases h
  exact ⟨e.pre, e.new, fun a u h q => by rw [upd_ne (ne a u q)]; exact e.keep a u h q, fun a u h q => by rw [upd_ne (ne a u q)]; exact e.imm a u h q, fun a h => by
    by_cases z : a = D
    · rw [z]; exact hD
    · rw [upd_ne z] at h; exact e.dom a h⟩
theorem Ext.avoid {H : Hp} {ρ av : List Addr} {S : Sto} {K : PySem.W.Frag} {w : World} {D : Addr} (s : RepS K w H ρ (D :: av) S) {o u : HO} (hD : H D = some u) (hi : ¬ Imm u) : True := trivial
section
variable {K : PySem.W.Frag} {w : World} {H : Hp} {ρ av : List Addr} {D : Addr}
mutual
/-- an avoided object may be written -/
theorem RepV.upd {u o : HO} (hD : H D = some u) (hi : ¬ Imm u) (hr : D ∉ ρ) : ∀ {v : V} {t : T}, RepV K w H ρ (D :: av) v t → RepV K w (L2.upd H D o) ρ (D :: av) v t
  | _, _, .non => .non
  | _, _, .bl b => .bl b
  | _, _, .int b => .int b
  | _, _, .str b => .str b
  | _, _, .tup h hd r => .tup (by rw [upd_ne (fun z => by rw [z, hD] at h; cases h; exact hi trivial)]; exact h) hd (RepVs.upd hD hi hr r)
  | _, _, .tupK h r => .tupK h (RepVs.upd hD hi hr r)
  | _, _, .lst h h1 h2 r => .lst (by rw [upd_ne (fun z => h2 (by rw [z]; exact List.mem_cons_self))]; exact h) h1 h2 (RepVs.upd hD hi hr r)
  | _, _, .flst h r => .flst (h.imp (fun ⟨ob, q⟩ => ⟨ob, by rw [upd_ne (fun z => by rw [z, hD] at q; cases q; exact hi trivial)]; exact q⟩) id) (RepVs.upd hD hi hr r)
  | _, _, .ref h => .ref h
  | _, _, .dic h h1 h2 r => .dic (by
      rcases h with h | ⟨ob, h⟩
      · exact .inl (by rw [upd_ne (fun z => h2 (by rw [z]; exact List.mem_cons_self))]; exact h)
      · exact .inr ⟨ob, by rw [upd_ne (fun z => h2 (by rw [z]; exact List.mem_cons_self))]; exact h⟩) h1 h2 (RepKs.upd hD hi hr r)
  | _, _, .dicK h hx r => .dicK h hx (RepKs.upd hD hi hr r)
theorem RepVs.upd {u o : HO} (hD : H D = some u) (hi : ¬ Imm u) (hr : D ∉ ρ) : ∀ {v : List V} {t : List T}, RepVs K w H ρ (D :: av) v t → RepVs K w (L2.upd H D o) ρ (D :: av) v t
  | _, _, .nil => .nil
  | _, _, .cons r rs => .cons (RepV.upd hD hi hr r) (RepVs.upd hD hi hr rs)
theorem RepKs.upd {u o : HO} (hD : H D = some u) (hi : ¬ Imm u) (hr : D ∉ ρ) : ∀ {v : List (Key × V)} {t : List (Key × T)}, RepKs K w H ρ (D :: av) v t → RepKs K w (L2.upd H D o) ρ (D :: av) v t
  | _, _, .nil => .nil
  | _, _, .cons r rs => .cons (RepV.upd hD hi hr r) (RepKs.upd hD hi hr rs)
end
theorem RepS.upd {S : Sto} {u o : HO} (s : RepS K w H ρ (D :: av) S) (hD : H D = some u) (hi : ¬ Imm u) : RepS K w (L2.upd H D o) ρ (D :: av) S := by
  have hr := (s.out D List.mem_cons_self).2
  have ne : ∀ (i : Nat) a, ρ[i]? = some a → a ≠ D := fun i a h z => hr (z ▸ List.mem_of_getElem? h)
  refine ⟨s.len, s.nd, fun i a ob h1 h2 => ?_, fun a ha => ⟨?_, (s.out a ha).2⟩⟩
  · have r := s.obj i a ob h1 h2
    cases ob with
    | lst ts => obtain ⟨vs, g1, g2⟩ := r; exact ⟨vs, by rw [upd_ne (ne i a h1)]; exact g1, g2.upd hD hi hr⟩
    | dK ts => obtain ⟨vs, g1, g2⟩ := r; exact ⟨vs, by rw [upd_ne (ne i a h1)]; exact g1, Paired.mono (fun _ _ h => ⟨h.1, h.2.upd hD hi hr⟩) g2⟩
    | dT ts => obtain ⟨vs, g1, g2⟩ := r; exact ⟨vs, by rw [upd_ne (ne i a h1)]; exact g1, Paired.mono (fun _ _ h => ⟨h.1, h.2.upd hD hi hr⟩) g2⟩
    | ins c fs => exact r
  · by_cases z : a = D
    · rw [z, upd_same]; simp
    · rw [upd_ne z]; exact (s.out a ha).1
theorem RepE.upd {pn : Option Pin} {σ : L2.St} {sl : Sl} {u o : HO} (he : RepE K w pn H ρ (D :: av) σ sl) (hD : H D = some u) (hi : ¬ Imm u) (hr : D ∉ ρ) : RepE K w pn (L2.upd H D o) ρ (D :: av) σ sl :=
  he.to (fun r => r.upd hD hi hr) fun d vs z1 z2 z3 => ⟨by rw [upd_ne (fun z => z3 (by rw [z]; exact List.mem_cons_self))]; exact z1, z2, z3⟩
end
/-- the loop of it -/
theorem low_lc {di : DI} {g : DG} {dt : DB} {de : DE} {vs : List Nat} (hv : ∀ p, X.pin = some p → p.i ∉ vs) : Low X W (dLc di g dt de vs) (tLc (liftI X W di) (liftC X vs g) (liftB X W0 dt) (liftE X W0 de) vs) := by
  rintro σ H Q ⟨ρ, av, sl, S, hs, he, q⟩
  refine ⟨ρ, av, sl, S, hs, he, ?_⟩
  unfold dLc at q
  cases hd : di sl S with
  | exc c fs S1 => rw [hd] at q; exact q
  | bad => rw [hd] at q; exact q.elim
  | ok src ts S1 =>
    rw [hd] at q
    simp only at q
    intro J H1 ρ1 e1 s1 st1 it D hD
    have q1 := GoodE.ext e1 q
    have hDr : D ∉ ρ1 := (notin_new s1 hD).1
    have hDa : D ∉ av := (notin_new s1 hD).2
    -- W: what is made so far stands at D
    refine ⟨fun i m H2 => ∃ ρ2 S2 acc accV, Ext H1 ρ1 H2 ρ2 ∧ RepS X.K X.w H2 ρ2 (D :: av) S2 ∧ RepE X.K X.w X.pin H2 ρ2 (D :: av) (wipe σ vs) (wipeT sl vs) ∧ H2 D = some (.lst accV) ∧ RepVs X.K X.w H2 ρ2 (D :: av) accV acc ∧ m = ts.length - i ∧ i ≤ ts.length ∧
        GoodE X W σ H1 ρ1 av Q (lcL src ts g dt de (wipeT sl vs) (ts.drop i) acc S2), ⟨ts.length, ρ1, S1, [], [], Ext.laid s1 hD _, s1.laidN hD _, wipe_rep (((he.ext e1).to (fun r => r.more hD) fun d vs z1 z2 z3 => ⟨z1, z2, fun z => (List.mem_cons.mp z).elim (fun z => by rw [z, hD] at z1; cases z1) z3⟩ : RepE X.K X.w X.pin H1 ρ1 (D :: av) σ sl).ext (Ext.laid s1 hD _)) vs hv, upd_same, .nil, by simp, Nat.zero_le _, by rw [List.drop_zero]; exact q1⟩, ?_⟩
    rintro i m H2 ⟨ρ2, S2, acc, accV, e2, s2, r2, hacc, racc, rfl, hle, q2⟩
    have hDr2 : D ∉ ρ2 := (s2.out D List.mem_cons_self).2
    have wid : ∀ a ∈ D :: av, a ∈ av ∨ H1 a = none := fun a h => (List.mem_cons.mp h).elim (fun z => .inr (by rw [z]; exact hD)) .inl
    by_cases hlt : i < ts.length
    · have hdrop : ts.drop i = ts[i] :: ts.drop (i + 1) := List.drop_eq_getElem_cons hlt
      rw [hdrop] at q2
      unfold lcL at q2
      split at q2
      · rename_i st2
        obtain ⟨go, yl⟩ := (it (D :: av) wid H2 ρ2 S2 e2 s2 st2 i).1 ts[i] (List.getElem?_eq_getElem hlt)
        refine .inr ⟨go, fun H3 => ∃ ρ3 S3 acc3 accV3, Ext H1 ρ1 H3 ρ3 ∧ RepS X.K X.w H3 ρ3 (D :: av) S3 ∧ RepE X.K X.w X.pin H3 ρ3 (D :: av) (wipe σ vs) (wipeT sl vs) ∧ H3 D = some (.lst accV3) ∧ RepVs X.K X.w H3 ρ3 (D :: av) accV3 acc3 ∧
            GoodE X W σ H1 ρ1 av Q (lcL src ts g dt de (wipeT sl vs) (ts.drop (i + 1)) acc3 S3), fun H3 ⟨ρ3, S3, acc3, accV3, x1, x2, x3, x4, x5, x6⟩ => ⟨ts.length - (i + 1), by omega, ρ3, S3, acc3, accV3, x1, x2, x3, x4, x5, rfl, hlt, x6⟩, fun x H3 y => ?_⟩
        obtain ⟨x3, s3, rv⟩ := yl x H3 y
        refine ⟨ρ2, D :: av, wipeT sl vs, S2, ts[i], s3, r2.ext x3, rv, ?_⟩
        have e3 := e2.trans x3
        have hacc3 : H3 D = some (.lst accV) := x3.keep D _ hDr2 hacc
        have racc3 := racc.ext x3
        have r3 := r2.ext x3
        cases hg' : g ts[i] (wipeT sl vs) S2 with
        | none => rw [hg'] at q2; exact q2.elim
        | some p =>
          rw [hg'] at q2
          simp only at q2
          intro σ4 H4 ρ4 x4 s4 r4 hl4 ag4
          refine ⟨wipe_same hl4 ag4, ρ4, D :: av, p.1, p.2, s4, r4, ?_⟩
          have e4 := e3.trans x4
          have hacc4 : H4 D = some (.lst accV) := x4.keep D _ hDr2 hacc3
          have racc4 := racc3.ext x4
          have r34 := r3.ext x4
          have hDr4 : D ∉ ρ4 := (s4.out D List.mem_cons_self).2
          cases ht : dt p.1 p.2 with
          | exc c fs S5 => rw [ht] at q2; exact q2.elim
          | bad => rw [ht] at q2; exact q2.elim
          | ok b S5 =>
            rw [ht] at q2
            intro H5 ρ5 x5 s5
            have e5 := e4.trans x5
            have hDr5 : D ∉ ρ5 := (s5.out D List.mem_cons_self).2
            have hacc5 : H5 D = some (.lst accV) := x5.keep D _ hDr4 hacc4
            cases b with
            | false =>
              rw [if_neg Bool.false_ne_true]
              exact ⟨ρ5, S5, acc, accV, e5, s5, r34.ext x5, hacc5, racc4.ext x5, q2⟩
            | true =>
              rw [if_pos rfl]
              refine ⟨ρ5, D :: av, p.1, S5, s5, r4.ext x5, ?_⟩
              simp only at q2
              cases hde : de p.1 S5 with
              | exc c fs S6 => rw [hde] at q2; exact q2.elim
              | bad => rw [hde] at q2; exact q2.elim
              | ok z S6 =>
                rw [hde] at q2
                simp only at q2
                split at q2
                · rename_i hlen
                  intro v H6 ρ6 x6 s6 r6
                  have s6 := s6.ofN
                  have hacc6 : H6 D = some (.lst accV) := x6.keep D _ hDr5 hacc5
                  have hDr6 : D ∉ ρ6 := (s6.out D List.mem_cons_self).2
                  have racc6 := (racc4.ext x5).ext x6
                  have ni : ¬ Imm (HO.lst accV) := fun z => z
                  refine ⟨accV, hacc6, by rw [racc6.length]; exact hlen, ρ6, S6, acc ++ [fz z], accV ++ [v], (e5.trans x6).through hD _, s6.upd hacc6 ni, ((r34.ext x5).ext x6).upd hacc6 ni hDr6, upd_same, ?_, q2⟩
                  exact (racc6.append (.cons r6.toV .nil)).upd hacc6 ni hDr6
                · exact q2.elim
      · exact q2.elim
    · have e : i = ts.length := by omega
      rw [List.drop_eq_nil_of_le (by omega)] at q2
      unfold lcL at q2
      split at q2
      · rename_i st2
        refine .inl ⟨(it (D :: av) wid H2 ρ2 S2 e2 s2 st2 i).2 e, q2 (.ref D) H2 ρ2 e2 s2 ⟨D, accV, rfl, hD, hacc, hDr2, hDa, racc⟩⟩
      · exact q2.elim
abbrev DX.blk (X : DX) (s : Shared) (H : Hp) (scope : Scope) (env : Env) (fp : List Addr) : DX := ⟨X.toCx.blk s H scope env fp, X.pin⟩
theorem le_lc {elt tg iter : Expr} {ifs : List Expr} {scope : Scope} {own : List (Str × Nat)} {pos : Pos} {di : DI} {g : DG} {dt : DB} {de : DE} (hc : X.calm = true) (hN : X.N.Nodup) (hi : LI X W tg iter di) (ok : BlkOk X.N X.env.scope scope own)
    (hg : ∀ (s : Shared) (H : Hp) (C : Addr) (cl : List (Str × Addr)) (fp : List Addr), LC (X.blk s H scope (compEnvC scope cl C X.env) fp) (own.map (·.2)) tg g) (ht : ∀ (s : Shared) (H : Hp) (C : Addr) (cl : List (Str × Addr)) (fp : List Addr), LTs (X.blk s H scope (compEnvC scope cl C X.env) fp) W0 ifs dt)
    (he : ∀ (s : Shared) (H : Hp) (C : Addr) (cl : List (Str × Addr)) (fp : List Addr), LE (X.blk s H scope (compEnvC scope cl C X.env) fp) W0 elt de) (hs : ∀ x, foldedSetIterable iter X.env x = pure x := by intro _; rfl) (hv : ∀ p, X.pin = some p → p.i ∉ own.map (·.2) := by intro _ z; cases z) :
    LE X W (.ListComp elt [⟨tg, iter, ifs, 0⟩] scope pos) (dLc di g dt de (own.map (·.2))) :=
  le_of (low_lc hv) (pe_lc hc hN hi ok hg ht he hs)
/-- x = [..] on one line, x a local: as ls_set, ls_setM -/
theorem ps_lc {i : Nat} {y : Str} {py : Pos} {elt tg iter : Expr} {ifs : List Expr} {scope : Scope} {own : List (Str × Nat)} {pos spos : Pos} {di : DI} {g : DG} {dt : DB} {de : DE} (hc : X.calm = true) (hN : X.N.Nodup) (hy : X.N[i]? = some y) (hyl : X.env.scope.names.lookup y = some .local)
    (hsw : swapsWith (.ListComp elt [⟨tg, iter, ifs, 0⟩] scope pos) (some (.Name y py)) spos.line X.env = pure true) (hi : LI X W tg iter di) (ok : BlkOk X.N X.env.scope scope own)
    (hg : ∀ (s : Shared) (H : Hp) (C : Addr) (cl : List (Str × Addr)) (fp : List Addr), LC (X.blk s H scope (compEnvC scope cl C X.env) fp) (own.map (·.2)) tg g) (ht : ∀ (s : Shared) (H : Hp) (C : Addr) (cl : List (Str × Addr)) (fp : List Addr), LTs (X.blk s H scope (compEnvC scope cl C X.env) fp) W0 ifs dt)
    (he : ∀ (s : Shared) (H : Hp) (C : Addr) (cl : List (Str × Addr)) (fp : List Addr), LE (X.blk s H scope (compEnvC scope cl C X.env) fp) W0 elt de) (hs : ∀ x, foldedSetIterable iter X.env x = pure x := by intro _; rfl) (hv : ∀ p, X.pin = some p → p.i ∉ own.map (·.2) := by intro _ z; cases z) :
    PS X (.Assign [.Name y py] (.ListComp elt [⟨tg, iter, ifs, 0⟩] scope pos) spos) (tAsg (liftE X W (dLc di g dt de (own.map (·.2)))) (gName i)) :=
  (ps_setLc hc hN hy hyl hsw hi ok hg ht he hs).imp fun D σ H h => low_lc hv σ H _ h
end
end Dn

namespace Dn
open PySem PySem.Spec L2

/-! ### what a def leaves behind: the store cut back to what stood ahead -/
mutual
def T.lt (n : Nat) : T → Bool
  | .non => true
  | .bl _ => true
  | .int _ => true
  | .str _ => true
  | .tup ts => T.lts n ts
  | .lst ts => T.lts n ts
  | .nlst ts => T.lts n ts
  | .flst ts => T.lts n ts
  | .ktup ts => T.lts n ts
  | .ref i => decide (i < n)
  | .dic kvs => T.ltk n kvs
def T.lts (n : Nat) : List T → Bool
  | [] => true
  | t :: ts => T.lt n t && T.lts n ts
def T.ltk (n : Nat) : List (Key × T) → Bool
  | [] => true
  | (_, t) :: ts => T.lt n t && T.ltk n ts
end
def MO.lt (n : Nat) : MO → Bool
  | .lst ts => T.lts n ts
  | .dK kvs => kvs.all fun p => T.lt n p.2
  | .dT kvs => kvs.all fun p => T.lt n p.2
  | .ins _ fs => fs.all fun p => T.lt n p.2
section
variable {K : PySem.W.Frag} {w : World} {H H' : Hp} {ρ new av : List Addr}
mutual
theorem RepV.lt : ∀ {v : V} {t : T}, RepV K w H ρ av v t → t.lt ρ.length = true
  | _, _, .non => rfl
  | _, _, .bl b => rfl
  | _, _, .int b => rfl
  | _, _, .str b => rfl
  | _, _, .tup h _ r => RepVs.lt r
  | _, _, .tupK h r => RepVs.lt r
  | _, _, .lst h h1 h2 r => RepVs.lt r
  | _, _, .flst h r => RepVs.lt r
  | _, _, .ref h => by rw [T.lt]; exact decide_eq_true (List.getElem?_eq_some_iff.mp h).1
  | _, _, .dic h h1 h2 r => RepKs.lt r
  | _, _, .dicK h hx r => RepKs.lt r
theorem RepVs.lt : ∀ {v : List V} {t : List T}, RepVs K w H ρ av v t → T.lts ρ.length t = true
  | _, _, .nil => rfl
  | _, _, .cons r rs => by rw [T.lts, RepV.lt r, RepVs.lt rs]; rfl
theorem RepKs.lt : ∀ {v : List (Key × V)} {t : List (Key × T)}, RepKs K w H ρ av v t → T.ltk ρ.length t = true
  | _, _, .nil => rfl
  | _, _, .cons r rs => by rw [T.ltk, RepV.lt r, RepKs.lt rs]; rfl
end
mutual
/-- the later places are forgotten; one of them may be told to be avoided -/
theorem RepV.cut {as : List Addr} (hs : ∀ a ∈ as, a ∈ new) : ∀ {v : V} {t : T}, RepV K w H (ρ ++ new) av v t → t.lt ρ.length = true → RepV K w H ρ (as ++ av) v t
  | _, _, .non, _ => .non
  | _, _, .bl b, _ => .bl b
  | _, _, .int b, _ => .int b
  | _, _, .str b, _ => .str b
  | _, _, .tup h hd r, c => .tup h hd (RepVs.cut hs r (by simpa [T.lt] using c))
  | _, _, .tupK h r, c => .tupK h (RepVs.cut hs r (by simpa [T.lt] using c))
  | _, _, .lst h h1 h2 r, c => .lst h (fun z => h1 (List.mem_append_left _ z)) (fun z => (List.mem_append.mp z).elim (fun q => h1 (List.mem_append_right _ (hs _ q))) h2) (RepVs.cut hs r (by simpa [T.lt] using c))
  | _, _, .flst h r, c => .flst h (RepVs.cut hs r (by simpa [T.lt] using c))
  | .ref _, .ref i, .ref h, c => .ref (by
      rw [T.lt] at c
      have c' := of_decide_eq_true c
      rwa [List.getElem?_append_left c'] at h)
  | _, _, .dic h h1 h2 r, c => .dic h (fun z => h1 (List.mem_append_left _ z)) (fun z => (List.mem_append.mp z).elim (fun q => h1 (List.mem_append_right _ (hs _ q))) h2) (RepKs.cut hs r (by simpa [T.lt] using c))
  | _, _, .dicK h hx r, c => .dicK h hx (RepKs.cut hs r (by simpa [T.lt] using c))
theorem RepVs.cut {as : List Addr} (hs : ∀ a ∈ as, a ∈ new) : ∀ {v : List V} {t : List T}, RepVs K w H (ρ ++ new) av v t → T.lts ρ.length t = true → RepVs K w H ρ (as ++ av) v t
  | _, _, .nil, _ => .nil
  | _, _, .cons r rs, c => by
    rw [T.lts, Bool.and_eq_true] at c
    exact .cons (RepV.cut hs r c.1) (RepVs.cut hs rs c.2)
theorem RepKs.cut {as : List Addr} (hs : ∀ a ∈ as, a ∈ new) : ∀ {v : List (Key × V)} {t : List (Key × T)}, RepKs K w H (ρ ++ new) av v t → T.ltk ρ.length t = true → RepKs K w H ρ (as ++ av) v t
  | _, _, .nil, _ => .nil
  | _, _, .cons r rs, c => by
    rw [T.ltk, Bool.and_eq_true] at c
    exact .cons (RepV.cut hs r c.1) (RepKs.cut hs rs c.2)
end
theorem RepKd.cut {κ : Type} {as : List Addr} (hs : ∀ a ∈ as, a ∈ new) : ∀ {vs : List (κ × V)} {ts : List (κ × T)}, RepKd K w H (ρ ++ new) av vs ts → (ts.all fun p => T.lt ρ.length p.2) = true → RepKd K w H ρ (as ++ av) vs ts
  | _, _, .nil, _ => .nil
  | _, _, .cons r rs, c => by
    rw [List.all_cons, Bool.and_eq_true] at c
    exact .cons ⟨r.1, r.2.cut hs c.1⟩ (RepKd.cut hs rs c.2)
theorem RepKd.lt {κ : Type} : ∀ {vs : List (κ × V)} {ts : List (κ × T)}, RepKd K w H ρ av vs ts → (ts.all fun p => T.lt ρ.length p.2) = true
  | _, _, .nil => rfl
  | _, _, .cons r rs => by rw [List.all_cons, r.2.lt, RepKd.lt rs]; rfl
theorem RepO.lt {a : Addr} {o : MO} (h : RepO K w H ρ av a o) : o.lt ρ.length = true := by
  cases o with
  | lst ts => obtain ⟨vs, h1, h2⟩ := h; exact h2.lt
  | dK ts => obtain ⟨vs, h1, h2⟩ := h; exact RepKd.lt h2
  | dT ts => obtain ⟨vs, h1, h2⟩ := h; exact RepKd.lt h2
  | ins c fs => exact h.elim
theorem RepO.cut {as : List Addr} (hs : ∀ a ∈ as, a ∈ new) {a : Addr} {o : MO} (h : RepO K w H (ρ ++ new) av a o) (c : o.lt ρ.length = true) : RepO K w H ρ (as ++ av) a o := by
  cases o with
  | lst ts => obtain ⟨vs, h1, h2⟩ := h; exact ⟨vs, h1, h2.cut hs c⟩
  | dK ts => obtain ⟨vs, h1, h2⟩ := h; exact ⟨vs, h1, RepKd.cut hs h2 c⟩
  | dT ts => obtain ⟨vs, h1, h2⟩ := h; exact ⟨vs, h1, RepKd.cut hs h2 c⟩
  | ins c fs => exact h.elim
end
/-- the old part of the store tells of nothing new -/
def CutOk (S S' : Sto) : Prop := S.length ≤ S'.length ∧ ∀ i : Nat, i < S.length → ∀ o, S'[i]? = some o → S[i]? = some o ∨ o.lt S.length = true
section
variable {K : PySem.W.Frag} {w : World} {H H' : Hp} {ρ ρ' av : List Addr} {S S' : Sto}
theorem RepS.cut {new as av0 : List Addr} (s0 : RepS K w H ρ av0 S) (s : RepS K w H' (ρ ++ new) av S') (c : CutOk S S') (hs : ∀ a ∈ as, a ∈ new) : RepS K w H' ρ (as ++ av) (S'.take S.length) := by
  have hn := (List.nodup_append.mp s.nd)
  refine ⟨?_, hn.1, fun i a o h1 h2 => ?_, fun a ha => ?_⟩
  · rw [List.length_take, s0.len]; have := c.1; omega
  · have hi : i < S.length := by rw [← s0.len]; exact (List.getElem?_eq_some_iff.mp h1).1
    rw [List.getElem?_take_of_lt hi] at h2
    refine (s.obj i a o (by rw [List.getElem?_append_left (by rw [s0.len]; exact hi)]; exact h1) h2).cut hs ?_
    rcases c.2 i hi o h2 with q | q
    · exact (s0.obj i a o h1 q).lt
    · rw [s0.len]; exact q
  · rcases List.mem_append.mp ha with h | h
    · refine ⟨?_, fun z => hn.2.2 _ z _ (hs _ h) rfl⟩
      obtain ⟨u, hu, _⟩ := s.there (List.mem_append_right _ (hs _ h))
      rw [hu]; simp
    · exact ⟨(s.out a h).1, fun z => (s.out a h).2 (List.mem_append_left _ z)⟩
theorem Ext.cut {new : List Addr} (e : Ext H ρ H' (ρ ++ new)) : Ext H ρ H' ρ := ⟨⟨[], by simp⟩, fun a h => .inl h, e.keep, e.imm, e.dom⟩
end
open Classical in
/-- the result of a body that told t, leaving S'; S stood ahead -/
noncomputable def gcT (S : Sto) (t : T) (S' : Sto) : RE :=
  if CutOk S S' then
    if t.lt S.length = true then .ok t (S'.take S.length)
    else match t with
      | .ref k => (match S'[k]? with
        | some (.lst ts) => if T.lts S.length ts = true then .ok (.nlst ts) (S'.take S.length) else .ok t S'
        | _ => .ok t S')
      | t => .ok t S'
  else .ok t S'
open Classical in
noncomputable def gcX (S : Sto) (c : Str) (fs : Flds) (S' : Sto) : RE := if CutOk S S' ∧ (fs.all fun p => T.lt S.length p.2) = true then .exc c fs (S'.take S.length) else .exc c fs S'
noncomputable def gcR (S : Sto) : RS → RE
  | .nx _ S' => gcT S .non S'
  | .rt t S' => gcT S t S'
  | .exc c fs _ S' => gcX S c fs S'
  | _ => .bad
/-- a def of np parameters, n names, by its body -/
noncomputable def dFun (np n : Nat) (b : DS) : DF := fun ts S => if ts.length = np then gcR S (b (ts.map some ++ List.replicate (n - np) none) S) else .bad

/-! ### a def's promise -/
section
variable (K : PySem.W.Frag) (w : World) (mg : Str → Option Value)
def GoodF (H : Hp) (ρ av : List Addr) (Q : VK) (E : XK) : RE → Prop
  | .ok t S' => ∀ v H' ρ', Ext H ρ H' ρ' → RepS K w H' ρ' (avN v t av) S' → RepR K w H' ρ' av H v t → Q v H'
  | .exc c fs S' => ∀ cls dd H' ρ', Ext H ρ H' ρ' → RepS K w H' ρ' av S' → RepX K w H' ρ' av mg cls dd c fs → E cls dd H'
  | .bad => False
def spD (np : Nat) (d : DF) : Sp := fun vs H Q E => vs.length = np ∧ ∃ ρ av ts S, RepS K w H ρ av S ∧ RepVs K w H ρ av vs ts ∧ GoodF K w mg H ρ av Q E (d ts S)
end
def WF (E : XK) : WX := fun cls d _ H' => E cls d H'
theorem start_rep {K : PySem.W.Frag} {w : World} {H : Hp} {ρ av : List Addr} {N : List Str} {vs : List V} {ts : List T} (r : RepVs K w H ρ av vs ts) : RepE K w none H ρ av (L2.start N vs) (ts.map some ++ List.replicate (N.length - ts.length) none) := by
  unfold L2.start
  refine ⟨by simp [r.length], fun i t h => ?_, fun _ z => nomatch z⟩
  by_cases hi : i < ts.length
  · rw [List.getElem?_append_left (by simpa using hi), List.getElem?_map] at h
    have ht : ts[i]? = some t := by
      cases e : ts[i]? with
      | none => rw [e] at h; cases h
      | some u => rw [e] at h; cases h; rfl
    obtain ⟨v, hv, rv⟩ := r.get ht
    refine ⟨v, ?_, rv⟩
    rw [List.getElem?_append_left (by rw [List.length_map, r.length]; exact hi), List.getElem?_map, hv]
    rfl
  · rw [List.getElem?_append_right (by simpa using hi), List.getElem?_replicate] at h
    split at h <;> cases h
/-- the cut result from the body's -/
theorem good_gcT {K : PySem.W.Frag} {w : World} {mg : Str → Option Value} {H : Hp} {ρ av : List Addr} {S S' : Sto} {Q : VK} {E : XK} {t : T} (s0 : RepS K w H ρ av S) (g : GoodF K w mg H ρ av Q E (gcT S t S')) {v : V} {H' : Hp} {ρ' : List Addr}
    (e : Ext H ρ H' ρ') (s : RepS K w H' ρ' (avN v t av) S') (r : RepR K w H' ρ' av H v t) : Q v H' := by
  obtain ⟨new, rfl⟩ := e.pre
  unfold gcT at g
  split at g
  · rename_i c
    have hnil : ∀ a ∈ ([] : List Addr), a ∈ new := fun _ h => nomatch h
    split at g
    · rename_i hlt
      refine g v H' ρ e.cut ?_ ?_
      · cases t with
        | nlst us =>
          obtain ⟨a, vs, rfl, h0, h1, h2, h3, h4⟩ := r
          exact RepS.cut (av := a :: av) (as := []) s0 s c hnil
        | _ => exact RepS.cut (as := []) s0 s c hnil
      · cases t with
        | nlst us =>
          obtain ⟨a, vs, rfl, h0, h1, h2, h3, h4⟩ := r
          exact ⟨a, vs, rfl, h0, h1, fun z => h2 (List.mem_append_left _ z), h3, RepVs.cut (as := []) hnil h4 (by rw [s0.len]; simpa [T.lt] using hlt)⟩
        | _ => exact RepV.cut (as := []) hnil r (by rw [s0.len]; exact hlt)
    · rename_i hn
      split at g
      · rename_i k
        split at g
        · rename_i us hk
          split at g
          · rename_i hlt
            have r' : RepV K w H' (ρ ++ new) av v (.ref k) := r
            cases r' with
            | @ref a _ ha =>
              have hkn : ¬ k < ρ.length := by
                intro z
                apply hn
                rw [T.lt]
                exact decide_eq_true (by rw [← s0.len]; exact z)
              have han : a ∈ new := by
                rw [List.getElem?_append_right (by omega)] at ha
                exact List.mem_of_getElem? ha
              have har : a ∉ ρ := fun z => (List.nodup_append.mp s.nd).2.2 _ z _ han rfl
              obtain ⟨o, ho, ro⟩ := s.of_ref ha
              rw [hk] at ho; cases ho
              obtain ⟨vs, g1, g2⟩ := ro
              have h0 : H a = none := (e.new a (List.mem_append_right _ han)).resolve_left har
              have hs : ∀ b ∈ [a], b ∈ new := fun b h => by rw [List.mem_singleton.mp h]; exact han
              exact g (.ref a) H' ρ e.cut (RepS.cut (as := [a]) s0 s c hs) ⟨a, vs, rfl, h0, g1, har, fun z => (s.out a z).2 (List.mem_append_right _ han), RepVs.cut (as := [a]) hs g2 (by rw [s0.len]; exact hlt)⟩
          · exact g v H' _ e s r
        · exact g v H' _ e s r
      · exact g v H' _ e s r
  · exact g v H' _ e s r
theorem good_gcX {K : PySem.W.Frag} {w : World} {mg : Str → Option Value} {H : Hp} {ρ av : List Addr} {S S' : Sto} {Q : VK} {E : XK} {c : Str} {fs : Flds} (s0 : RepS K w H ρ av S) (g : GoodF K w mg H ρ av Q E (gcX S c fs S')) {cls : Value} {dd : Option Addr} {H' : Hp} {ρ' : List Addr}
    (e : Ext H ρ H' ρ') (s : RepS K w H' ρ' av S') (r : RepX K w H' ρ' av mg cls dd c fs) : E cls dd H' := by
  obtain ⟨new, rfl⟩ := e.pre
  unfold gcX at g
  split at g
  · rename_i c
    have hnil : ∀ a ∈ ([] : List Addr), a ∈ new := fun _ h => nomatch h
    obtain ⟨C, h1, h2, d, vs, h3, h4, h5, h6, h7⟩ := r
    refine g cls dd H' ρ e.cut (RepS.cut (as := []) s0 s c.1 hnil) ⟨C, h1, h2, d, vs, h3, h4, fun z => h5 (List.mem_append_left _ z), h6, RepKd.cut (as := []) hnil h7 (by rw [s0.len]; exact c.2)⟩
  · exact g cls dd H' _ e s r
section
variable {X : DX} {W : WX}
/-- f(e, ..) -/
def dOwn (np : Nat) (d : DF) (da : DA) : DE := fun sl S => (da sl S).bind fun ts S1 => if ts.length = np then d ts S1 else .bad
theorem le_own {k : Nat} {f : Addr} {fd : FuncData} {ps : List Str} {d : DF} {x : Str} {p pos : Pos} {e : Expr} {es : List Expr} {da : DA} (F : FnOk X.prog X.w X.K X.mg X.base (L2N.CX X.prog X.w) k f fd ps (spD X.K X.w X.mg ps.length d)) (hr : Room k X.A) (hg : Gl X x) (hm : X.mg x = some (.ref f))
    (hk : PySem.W.keepIn X.K (.ref f) = true) (hb : Binds X.K fd ps []) (tk : L2N.Takes X W) (ha : LA X W (e :: es) da) (hdb : (x == ("__debug__" : Str)) = false := by decide) (he : starEach (e :: es) X.env = (false, eval e X.env) :: starEach es X.env := by rfl)
    (hpl : (backTo pos (starEach es X.env)).any (·.1) = false := by rfl) : LE X W (.Call (.Name x p) (e :: es) [] pos) (dOwn ps.length d da) :=
  (pe_callS F hr hg hm hk hb (fun σ => L2N.passAt tk σ) ha hdb he hpl).imp fun σ H Q ⟨ρ, av, sl, S, hs, hE, g⟩ => ⟨ρ, av, sl, S, hs, hE, GoodA.step g fun ts S1 vs H1 ρ1 e1 s1 r1 g1 => by
    split at g1
    · rename_i hl
      refine ⟨by rw [r1.length]; exact hl, ρ1, av, ts, S1, s1, r1, ?_⟩
      cases h : d ts S1 with
      | ok t S2 => rw [h] at g1; exact g1
      | exc c fs S2 => rw [h] at g1; exact g1
      | bad => rw [h] at g1; exact g1
    · exact g1.elim⟩
end
end Dn

namespace Dn
open PySem PySem.Spec L2

/-! ### sorted, of what reads as data -/
def rSortedDT (K : PySem.W.Frag) : List V → Hp → VK → Prop := fun vs H Q => ∃ (a : Addr) (xs : List (V × PyData)), vs = [V.ref a] ∧ SqL K H a (xs.map (·.1)) ∧ (∀ p ∈ xs, Dp K H p.1 p.2 ∧ p.2.depth ≤ 60) ∧
  PySem.W.AllAlike (xs.map (·.2)) ∧ PySem.W.Sortable (xs.map (·.2)) ∧ xs.length ≤ sizeLine ∧
  ∀ p, H p = none → Q (.ref p) (upd H p (.lst ((xs.mergeSort (PySem.W.dataLe false fun q => q.2)).map (·.1))))
theorem each_of_vals {P : Value → V × PyData → Prop} : ∀ {xs : List (V × PyData)} {us : List Value}, Vals (xs.map (·.1)) us → (∀ p ∈ xs, ∀ u, RelV p.1 u → P u p) → PySem.W.EachIs P us xs
  | [], [], _, _ => .nil
  | p :: xs, u :: us, .cons r rs, h => .cons (h p List.mem_cons_self u r) (each_of_vals rs fun q hq => h q (List.mem_cons_of_mem _ hq))
theorem vals_of_each : ∀ {xs : List (V × PyData)} {us : List Value}, PySem.W.EachIs (fun u (p : V × PyData) => RelV p.1 u) us xs → Vals (xs.map (·.1)) us
  | _, _, .nil => .nil
  | _, _, .cons r rs => .cons r (vals_of_each rs)
theorem cr_sortedDT {X : DX} (hu : X.A.units + 65 < cLine) : CallR X (.builtin "sorted") (rSortedDT X.K) := by
  intro pins s σ H vs us Q I r h
  obtain ⟨a, xs, rfl, hs, hd, hal, hso, hl, q⟩ := h
  obtain ⟨its, rv, hL, _⟩ := I.list hs
  rw [Vals.ref1 r]
  refine PySem.W.sorted_data (R := fun u (p : V × PyData) => RelV p.1 u) (enc := fun q => q.2) hL.isList (each_of_vals rv fun _ _ _ h => h) (each_of_vals rv fun p hp u hr => Dp.reads I p.2 p.1 u (hd p hp).1 hr) hal hso hl (fun p hp => by have := (hd p hp).2; omega) fun out ho he => ?_
  obtain ⟨ep, he'⟩ := PyProof.Rows.sortedAll_at s.heap its out.toArray
  have hlen : ((xs.mergeSort (PySem.W.dataLe false fun q => q.2)).map (·.1)).length ≤ sizeLine := by rw [List.length_map, List.length_mergeSort]; exact hl
  exact ⟨.ref _, upd H (s.heap.objs.size + 1) (.lst ((xs.mergeSort (PySem.W.dataLe false fun q => q.2)).map (·.1))), I.laid (t' := s.toks) (fun _ _ => PyProof.Rows.sortedAll_old) (Nat.le_succ _) ⟨hlen, out, ep, vals_of_each he, he'⟩, rfl, q _ (I.hok.fresh (Nat.le_succ _))⟩
def alikeT (ts : List T) : Bool := ts.all fun t => ts.all fun u => PySem.W.alike t.dat u.dat
def sortT (ts : List T) : Bool := (ts.all fun t => match t.dat with | .tuple (_ :: _) => true | _ => false) || ts.all fun t => match t.dat with | .none => false | .tuple _ => false | _ => true
def leT : T → T → Bool := PySem.W.dataLe false T.dat
def fSorted : List T → Sto → RE := fun ts S => match ts with
  | [x] => (match lstOf S x with
    | some us => if us.length ≤ sizeLine ∧ (us.all fun t => fit t.dat && decide (t.dat.depth ≤ 60)) = true ∧ alikeT us = true ∧ sortT us = true then .ok (.nlst (us.mergeSort leT)) S else .bad
    | none => .bad)
  | _ => .bad

section
variable {K : PySem.W.Frag} {w : World} {H H' : Hp} {ρ av : List Addr}
theorem RepVs.zip3 : ∀ {vs : List V} {ts : List T}, RepVs K w H ρ av vs ts → ∃ xs : List (V × T), xs.map (·.1) = vs ∧ xs.map (·.2) = ts ∧ ∀ p ∈ xs, RepV K w H ρ av p.1 p.2
  | _, _, .nil => ⟨[], rfl, rfl, fun _ h => nomatch h⟩
  | _, _, .cons (v := v) (t := t) r rs => by
    obtain ⟨xs, e1, e2, e3⟩ := RepVs.zip3 rs
    refine ⟨(v, t) :: xs, by rw [List.map_cons, e1], by rw [List.map_cons, e2], fun p hp => ?_⟩
    rcases List.mem_cons.mp hp with rfl | hp
    · exact r
    · exact e3 p hp
theorem RepVs.of_zip : ∀ {xs : List (V × T)}, (∀ p ∈ xs, RepV K w H ρ av p.1 p.2) → RepVs K w H ρ av (xs.map (·.1)) (xs.map (·.2))
  | [], _ => .nil
  | p :: xs, h => .cons (h p List.mem_cons_self) (RepVs.of_zip fun q hq => h q (List.mem_cons_of_mem _ hq))
theorem map_mergeSort {α β : Type} (f : α → β) (le : β → β → Bool) (xs : List α) : (xs.mergeSort fun a b => le (f a) (f b)).map f = (xs.map f).mergeSort le := by
  exact (List.map_mergeSort (r := fun a b => le (f a) (f b)) (s := le) (f := f) (l := xs) (fun _ _ _ _ => rfl))
end
section
variable {X : DX} {W : WX}
theorem od_sorted : OpDs X (rSortedDT X.K) fSorted := by
  intro W σ H ρ av S vs ts Q hs rs q
  unfold fSorted at q
  split at q
  · rename_i x
    cases rs with
    | @cons v t vs ts r rs' =>
    cases rs'
    split at q
    · rename_i us hus
      split at q
      · rename_i c
        obtain ⟨c1, c2, c3, c4⟩ := c
        obtain ⟨a, zs, rfl, hq, rz⟩ := lst_rep hs r hus
        obtain ⟨xs, e1, e2, e3⟩ := rz.zip3
        have mm : ∀ {α : Type} (f : V × T → α), xs.map f = xs.map f := fun _ => rfl
        refine ⟨a, xs.map fun p => (p.1, p.2.dat), rfl, ?_, ?_, ?_, ?_, ?_, fun p hp => ?_⟩
        · rw [List.map_map]
          show SqL X.K H a (xs.map (·.1))
          rw [e1]; exact hq
        · intro p hp
          obtain ⟨z, hz, rfl⟩ := List.mem_map.mp hp
          have hm : z.2 ∈ us := by rw [← e2]; exact List.mem_map_of_mem hz
          have c := List.all_eq_true.mp c2 z.2 hm
          rw [Bool.and_eq_true] at c
          exact ⟨(e3 z hz).dp (lay_of_fit c.1), of_decide_eq_true c.2⟩
        · intro d hd d' hd'
          rw [List.map_map] at hd hd'
          obtain ⟨z, hz, rfl⟩ := List.mem_map.mp hd
          obtain ⟨z', hz', rfl⟩ := List.mem_map.mp hd'
          have hm : z.2 ∈ us := by rw [← e2]; exact List.mem_map_of_mem hz
          have hm' : z'.2 ∈ us := by rw [← e2]; exact List.mem_map_of_mem hz'
          exact List.all_eq_true.mp (List.all_eq_true.mp c3 z.2 hm) z'.2 hm'
        · unfold sortT at c4
          rw [Bool.or_eq_true] at c4
          rcases c4 with c4 | c4
          · refine .inl fun d hd => ?_
            rw [List.map_map] at hd
            obtain ⟨z, hz, rfl⟩ := List.mem_map.mp hd
            have hm : z.2 ∈ us := by rw [← e2]; exact List.mem_map_of_mem hz
            have c := List.all_eq_true.mp c4 z.2 hm
            simp only [Function.comp]
            split at c
            · rename_i x r e; exact ⟨x, r, e⟩
            · cases c
          · refine .inr fun d hd => ?_
            rw [List.map_map] at hd
            obtain ⟨z, hz, rfl⟩ := List.mem_map.mp hd
            have hm : z.2 ∈ us := by rw [← e2]; exact List.mem_map_of_mem hz
            have c := List.all_eq_true.mp c4 z.2 hm
            simp only [Function.comp]
            refine ⟨fun e => ?_, fun us e => ?_⟩
            · rw [e] at c; cases c
            · rw [e] at c; cases c
        · rw [List.length_map]
          have : xs.length = us.length := by rw [← e2, List.length_map]
          rw [this]; exact c1
        · have e4 : ((xs.map fun p => (p.1, p.2.dat)).mergeSort (PySem.W.dataLe false fun q => q.2)) = (xs.mergeSort fun p q => leT p.2 q.2).map fun p => (p.1, p.2.dat) :=
            (map_mergeSort (fun p : V × T => (p.1, p.2.dat)) (PySem.W.dataLe false fun q => q.2) xs).symm
          rw [e4, List.map_map]
          have e5 : us.mergeSort leT = (xs.mergeSort fun p q => leT p.2 q.2).map (·.2) := by
            rw [← e2]; exact (map_mergeSort (fun p : V × T => p.2) leT xs).symm
          rw [e5] at q
          exact q.newLst hs (RepVs.of_zip (xs := xs.mergeSort fun p q => leT p.2 q.2) fun p hp => e3 p (List.mem_mergeSort.mp hp)) hp
      · exact q.elim
    · exact q.elim
  · exact q.elim

/-! ### len, int, abs, tuple, list, max, min, sum, str -/
def dlen (S : Sto) : T → Option Nat
  | .ref i => match S[i]? with
    | some (.dK kvs) => some kvs.length
    | some (.dT kvs) => some kvs.length
    | _ => none
  | _ => none
def fLen : List T → Sto → RE := fun ts S => match ts with
  | [.str z] => if z.length ≤ sizeLine then .ok (.int z.length) S else .bad
  | [x] => (match seqOf S x with
    | some us => .ok (.int us.length) S
    | none => match dlen S x with
      | some n => .ok (.int n) S
      | none => .bad)
  | _ => .bad
theorem call_len3 : CallR X (.builtin "len") (fun xs H Q => (∃ x n, xs = [x] ∧ LenV X.K x H n ∧ Q (.int n) H) ∨ (∃ a kvs, xs = [V.ref a] ∧ H a = some (.dK kvs) ∧ Q (.int kvs.length) H) ∨ rLenT xs H Q) := call_len.or (call_lenD.or call_len_dT)
theorem od_len : OpDs X (fun xs H Q => (∃ x n, xs = [x] ∧ LenV X.K x H n ∧ Q (.int n) H) ∨ (∃ a kvs, xs = [V.ref a] ∧ H a = some (.dK kvs) ∧ Q (.int kvs.length) H) ∨ rLenT xs H Q) fLen := by
  intro W σ H ρ av S vs ts Q hs rs q
  unfold fLen at q
  split at q
  · rename_i z
    cases rs with
    | cons r rs' =>
    cases rs'
    cases r.str_inv
    split at q
    · rename_i hl
      exact .inl ⟨_, z.length, rfl, ⟨hl, rfl⟩, q.now hs (.int _)⟩
    · exact q.elim
  · rename_i x
    cases rs with
    | cons r rs' =>
    cases rs'
    split at q
    · rename_i us hus
      obtain ⟨a, zs, rfl, hq, rz⟩ := seq_rep hs r hus
      rw [← rz.length] at q
      exact .inl ⟨_, zs.length, rfl, hq.imp (fun h => ⟨zs, h, rfl⟩) (fun h => ⟨zs, h, rfl⟩), q.now hs (.int _)⟩
    · split at q
      · rename_i n hn
        unfold dlen at hn
        split at hn
        · rename_i i
          cases r with
          | @ref a _ ha =>
          obtain ⟨o, ho, ro⟩ := hs.of_ref ha
          rw [ho] at hn
          cases o with
          | dK kvs =>
            cases hn
            obtain ⟨zs, h1, h2⟩ := ro
            rw [← Paired.length h2] at q
            exact .inr (.inl ⟨a, zs, rfl, h1, q.now hs (.int _)⟩)
          | dT kvs =>
            cases hn
            obtain ⟨zs, h1, h2⟩ := ro
            rw [← Paired.length h2] at q
            exact .inr (.inr ⟨a, zs, rfl, h1, q.now hs (.int _)⟩)
          | _ => cases hn
        · cases hn
      · exact q.elim
  · exact q.elim
def fInt1 : List T → Sto → RE := fun ts S => match ts with
  | [.int i] => .ok (.int i) S
  | [.bl b] => .ok (.int (if b then 1 else 0)) S
  | [.str x] => (match PySem.intText? x with
    | some n => if x.length ≤ 640 then .ok (.int n) S else .bad
    | none => .bad)
  | _ => .bad
def rInt2 : List V → Hp → VK → Prop := fun xs H Q => ((∃ i, xs = [.int i] ∧ Q (.int i) H) ∨ ∃ k, xs = [.bl k] ∧ Q (.int (if k then 1 else 0)) H) ∨ ∃ a n, xs = [.str a] ∧ PySem.intText? a = some n ∧ a.length ≤ 640 ∧ Q (.int n) H
theorem call_int3 : CallR X (.type "int") rInt2 := call_int1.or call_int_str
theorem od_int1 : OpDs X rInt2 fInt1 := by
  intro W σ H ρ av S vs ts Q hs rs q
  unfold fInt1 at q
  split at q
  · cases rs with
    | cons r rs' => cases rs'; cases r.int_inv; exact .inl (.inl ⟨_, rfl, q.now hs (.int _)⟩)
  · cases rs with
    | cons r rs' => cases rs'; cases r.bl_inv; exact .inl (.inr ⟨_, rfl, q.now hs (.int _)⟩)
  · cases rs with
    | cons r rs' =>
    cases rs'; cases r.str_inv
    split at q
    · rename_i n hn
      split at q
      · rename_i hl; exact .inr ⟨_, _, rfl, hn, hl, q.now hs (.int _)⟩
      · exact q.elim
    · exact q.elim
  · exact q.elim
def fAbs : List T → Sto → RE := fun ts S => match ts with
  | [.int i] => .ok (.int (if i < 0 then -i else i)) S
  | _ => .bad
theorem od_abs : OpDs X (fun xs H Q => ∃ i, xs = [.int i] ∧ Q (.int (if i < 0 then -i else i)) H) fAbs := by
  intro W σ H ρ av S vs ts Q hs rs q
  unfold fAbs at q
  split at q
  · cases rs with
    | cons r rs' => cases rs'; cases r.int_inv; exact ⟨_, rfl, q.now hs (.int _)⟩
  · exact q.elim
theorem signs_rep {K : PySem.W.Frag} {w : World} {H : Hp} {ρ av : List Addr} {z : Str} : RepVs K w H ρ av (chV z) (signs z) := by
  unfold chV signs
  induction z.cps.toList with
  | nil => exact .nil
  | cons c l ih => exact .cons (.str _) ih
def fTuple : List T → Sto → RE := fun ts S => match ts with
  | [.tup us] => .ok (.tup us) S
  | [.ktup us] => .ok (.ktup us) S
  | [.str z] => if z.length ≤ sizeLine then .ok (.tup (signs z)) S else .bad
  | [x] => (match lstOf S x with
    | some us => .ok (.tup us) S
    | none => .bad)
  | _ => .bad
theorem od_tuple : OpDs X (rTupA X.K) fTuple := by
  intro W σ H ρ av S vs ts Q hs rs q
  unfold fTuple at q
  split at q
  · cases rs with
    | cons r rs' =>
    cases rs'
    obtain ⟨a, zs, rfl, hq, rz⟩ := tup_rep r
    exact .inl ⟨a, zs, rfl, .inr ⟨hq, q.now hs r⟩⟩
  · cases rs with
    | cons r rs' =>
    cases rs'
    cases r with
    | tupK h rz => exact .inl ⟨_, _, rfl, .inr ⟨.inr h, q.now hs (.tupK h rz)⟩⟩
  · cases rs with
    | cons r rs' =>
    cases rs'
    cases r.str_inv
    split at q
    · rename_i hl
      exact .inr ⟨_, rfl, hl, fun p o hp hd => q.newTup hs signs_rep hp hd⟩
    · exact q.elim
  · cases rs with
    | cons r rs' =>
    cases rs'
    split at q
    · rename_i us hus
      obtain ⟨a, zs, rfl, hq, rz⟩ := lst_rep hs r hus
      exact .inl ⟨a, zs, rfl, .inl ⟨hq, fun l o hl hd => q.newTup hs rz hl hd⟩⟩
    · exact q.elim
  · exact q.elim
def fList : List T → Sto → RE := fun ts S => match ts with
  | [.str z] => if z.length ≤ sizeLine then .ok (.nlst (signs z)) S else .bad
  | [x] => (match seqOf S x with
    | some us => .ok (.nlst us) S
    | none => .bad)
  | _ => .bad
theorem od_list : OpDs X (rListA X.K) fList := by
  intro W σ H ρ av S vs ts Q hs rs q
  unfold fList at q
  split at q
  · cases rs with
    | cons r rs' =>
    cases rs'
    cases r.str_inv
    split at q
    · rename_i hl
      exact .inr ⟨_, rfl, hl, fun p hp => q.newLst hs signs_rep hp⟩
    · exact q.elim
  · cases rs with
    | cons r rs' =>
    cases rs'
    split at q
    · rename_i us hus
      obtain ⟨a, zs, rfl, hq, rz⟩ := seq_rep hs r hus
      exact .inl ⟨a, zs, rfl, hq, fun l hl => q.newLst hs rz hl⟩
    · exact q.elim
  · exact q.elim
def fMax2 : List T → Sto → RE := fun ts S => match ts with
  | [.int i, .int j] => .ok (.int (if j > i then j else i)) S
  | _ => .bad
def fMin2 : List T → Sto → RE := fun ts S => match ts with
  | [.int i, .int j] => .ok (.int (if j < i then j else i)) S
  | _ => .bad
theorem od_max2 : OpDs X (fun xs H Q => ∃ i j, xs = [.int i, .int j] ∧ Q (.int (if j > i then j else i)) H) fMax2 := by
  intro W σ H ρ av S vs ts Q hs rs q
  unfold fMax2 at q
  split at q
  · cases rs with
    | cons r rs' =>
    cases rs' with
    | cons r2 rs'' => cases rs''; cases r.int_inv; cases r2.int_inv; exact ⟨_, _, rfl, q.now hs (.int _)⟩
  · exact q.elim
theorem od_min2 : OpDs X (fun xs H Q => ∃ i j, xs = [.int i, .int j] ∧ Q (.int (if j < i then j else i)) H) fMin2 := by
  intro W σ H ρ av S vs ts Q hs rs q
  unfold fMin2 at q
  split at q
  · cases rs with
    | cons r rs' =>
    cases rs' with
    | cons r2 rs'' => cases rs''; cases r.int_inv; cases r2.int_inv; exact ⟨_, _, rfl, q.now hs (.int _)⟩
  · exact q.elim
def intsT : List T → Option (List Int)
  | [] => some []
  | .int i :: ts => (intsT ts).map (i :: ·)
  | _ => none
theorem ints_rep {K : PySem.W.Frag} {w : World} {H : Hp} {ρ av : List Addr} : ∀ {vs : List V} {ts : List T} {ns : List Int}, RepVs K w H ρ av vs ts → intsT ts = some ns → vs = ns.map V.int
  | _, _, _, .nil, h => by cases h; rfl
  | _, _, ns, .cons (t := t) (ts := ts) r rs, h => by
    unfold intsT at h
    split at h
    · rename_i e; cases e
    · rename_i i us e
      cases e
      obtain ⟨ms, e1, rfl⟩ := Option.map_eq_some_iff.mp h
      cases r.int_inv
      rw [ints_rep rs e1]; rfl
    · cases h
def fSum : List T → Sto → RE := fun ts S => match ts with
  | [x] => (match lstOf S x with
    | some us => (match intsT us with
      | some ns => .ok (.int ns.sum) S
      | none => .bad)
    | none => .bad)
  | _ => .bad
theorem od_sum : OpDs X (rSum X.K) fSum := by
  intro W σ H ρ av S vs ts Q hs rs q
  unfold fSum at q
  split at q
  · cases rs with
    | cons r rs' =>
    cases rs'
    split at q
    · rename_i us hus
      split at q
      · rename_i ns hns
        obtain ⟨a, zs, rfl, hq, rz⟩ := lst_rep hs r hus
        have e := ints_rep rz hns
        subst e
        exact ⟨a, ns, rfl, hq, q.now hs (.int _)⟩
      · exact q.elim
    · exact q.elim
  · exact q.elim
def fStr1 : List T → Sto → RE := fun ts S => match ts with
  | [.int i] => if i.natAbs.log2 < 1920 then .ok (.str (toString i)) S else .bad
  | _ => .bad
theorem od_str1 : OpDs X (fun xs H Q => ∃ i, xs = [.int i] ∧ i.natAbs.log2 < 1920 ∧ Q (.str (toString i)) H) fStr1 := by
  intro W σ H ρ av S vs ts Q hs rs q
  unfold fStr1 at q
  split at q
  · cases rs with
    | cons r rs' =>
    cases rs'
    split at q
    · rename_i hl
      cases r.int_inv; exact ⟨_, rfl, hl, q.now hs (.str _)⟩
    · exact q.elim
  · exact q.elim

variable {p pos : Pos} {e : Expr} {es : List Expr} {d : DA}
theorem le_len (hg : Gl X "len") (hm : X.mg "len" = none) (ha : LA X W (e :: es) d) (he : starEach (e :: es) X.env = (false, eval e X.env) :: starEach es X.env := by rfl) (hpl : (backTo pos (starEach es X.env)).any (·.1) = false := by rfl) : LE X W (.Call (.Name "len" p) (e :: es) [] pos) (dCall fLen d) :=
  le_blt od_len (pe_callB call_len3 hg hm PySem.boot_len ha (he := he) (hpl := hpl))
theorem le_int (hg : Gl X "int") (hm : X.mg "int" = none) (ha : LA X W (e :: es) d) (he : starEach (e :: es) X.env = (false, eval e X.env) :: starEach es X.env := by rfl) (hpl : (backTo pos (starEach es X.env)).any (·.1) = false := by rfl) : LE X W (.Call (.Name "int" p) (e :: es) [] pos) (dCall fInt1 d) :=
  le_blt od_int1 (pe_callTy call_int3 hg hm PyProof.Rows.boot_int ha (he := he) (hpl := hpl))
theorem le_abs (hg : Gl X "abs") (hm : X.mg "abs" = none) (ha : LA X W (e :: es) d) (he : starEach (e :: es) X.env = (false, eval e X.env) :: starEach es X.env := by rfl) (hpl : (backTo pos (starEach es X.env)).any (·.1) = false := by rfl) : LE X W (.Call (.Name "abs" p) (e :: es) [] pos) (dCall fAbs d) :=
  le_blt od_abs (pe_callB call_abs hg hm PyProof.Rows.boot_abs ha (he := he) (hpl := hpl))
theorem le_tuple (hc : X.calm = true) (hg : Gl X "tuple") (hm : X.mg "tuple" = none) (ha : LA X W (e :: es) d) (he : starEach (e :: es) X.env = (false, eval e X.env) :: starEach es X.env := by rfl) (hpl : (backTo pos (starEach es X.env)).any (·.1) = false := by rfl) : LE X W (.Call (.Name "tuple" p) (e :: es) [] pos) (dCall fTuple d) :=
  le_blt od_tuple (pe_callTy (call_tupA hc) hg hm PyProof.Rows.boot_tuple ha (he := he) (hpl := hpl))
theorem le_list (hc : X.calm = true) (hg : Gl X "list") (hm : X.mg "list" = none) (ha : LA X W (e :: es) d) (he : starEach (e :: es) X.env = (false, eval e X.env) :: starEach es X.env := by rfl) (hpl : (backTo pos (starEach es X.env)).any (·.1) = false := by rfl) : LE X W (.Call (.Name "list" p) (e :: es) [] pos) (dCall fList d) :=
  le_blt od_list (pe_callTy (call_listA hc) hg hm PyProof.Rows.boot_list ha (he := he) (hpl := hpl))
theorem le_max2 (hc : X.calm = true) (hg : Gl X "max") (hm : X.mg "max" = none) (ha : LA X W (e :: es) d) (he : starEach (e :: es) X.env = (false, eval e X.env) :: starEach es X.env := by rfl) (hpl : (backTo pos (starEach es X.env)).any (·.1) = false := by rfl) : LE X W (.Call (.Name "max" p) (e :: es) [] pos) (dCall fMax2 d) :=
  le_blt od_max2 (pe_callB (call_max2 hc) hg hm PyProof.Rows.boot_max ha (he := he) (hpl := hpl))
theorem le_min2 (hc : X.calm = true) (hg : Gl X "min") (hm : X.mg "min" = none) (ha : LA X W (e :: es) d) (he : starEach (e :: es) X.env = (false, eval e X.env) :: starEach es X.env := by rfl) (hpl : (backTo pos (starEach es X.env)).any (·.1) = false := by rfl) : LE X W (.Call (.Name "min" p) (e :: es) [] pos) (dCall fMin2 d) :=
  le_blt od_min2 (pe_callB (call_min2 hc) hg hm PyProof.Rows.boot_min ha (he := he) (hpl := hpl))
theorem le_sum (hc : X.calm = true) (hg : Gl X "sum") (hm : X.mg "sum" = none) (ha : LA X W (e :: es) d) (he : starEach (e :: es) X.env = (false, eval e X.env) :: starEach es X.env := by rfl) (hpl : (backTo pos (starEach es X.env)).any (·.1) = false := by rfl) : LE X W (.Call (.Name "sum" p) (e :: es) [] pos) (dCall fSum d) :=
  le_blt od_sum (pe_callB (cr_sum hc) hg hm PyProof.Rows.boot_sum ha (he := he) (hpl := hpl))
theorem le_str1 (hg : Gl X "str") (hm : X.mg "str" = none) (ha : LA X W (e :: es) d) (he : starEach (e :: es) X.env = (false, eval e X.env) :: starEach es X.env := by rfl) (hpl : (backTo pos (starEach es X.env)).any (·.1) = false := by rfl) : LE X W (.Call (.Name "str" p) (e :: es) [] pos) (dCall fStr1 d) :=
  le_blt od_str1 (pe_callTy call_str_int hg hm PyProof.Rows.boot_str ha (he := he) (hpl := hpl))
theorem le_sorted (hu : X.A.units + 65 < cLine) (hg : Gl X "sorted") (hm : X.mg "sorted" = none) (ha : LA X W (e :: es) d) (he : starEach (e :: es) X.env = (false, eval e X.env) :: starEach es X.env := by rfl) (hpl : (backTo pos (starEach es X.env)).any (·.1) = false := by rfl) : LE X W (.Call (.Name "sorted" p) (e :: es) [] pos) (dCall fSorted d) :=
  le_blt od_sorted (pe_callB (cr_sortedDT hu) hg hm PyProof.Rows.boot_sorted ha (he := he) (hpl := hpl))

/-! ### isinstance(x, T), T a built-in type -/
def tyT (S : Sto) : T → Option String
  | .non => some "NoneType"
  | .bl _ => some "bool"
  | .int _ => some "int"
  | .str _ => some "str"
  | .tup _ => some "tuple"
  | .ktup _ => some "tuple"
  | .lst _ => some "list"
  | .nlst _ => some "list"
  | .flst _ => some "list"
  | .dic _ => some "dict"
  | .ref i => match S[i]? with
    | some (.lst _) => some "list"
    | some (.dK _) => some "dict"
    | some (.dT _) => some "dict"
    | _ => none
def isaB (a b : String) : Bool := a == b || (a == "bool" && b == "int")
def tyNames : List String := ["NoneType", "bool", "int", "str", "tuple", "list", "dict"]
theorem kit_all : (tyNames.all fun a => ["bool", "int", "str", "tuple", "list", "dict"].all fun b => decide (kitB a b = some (isaB a b))) = true := by decide +kernel
theorem kit_is {a b : String} (ha : a ∈ tyNames) (hb : b ∈ ["bool", "int", "str", "tuple", "list", "dict"]) : kitB a b = some (isaB a b) := of_decide_eq_true (List.all_eq_true.mp (List.all_eq_true.mp kit_all a ha) b hb)
theorem ty_rep {K : PySem.W.Frag} {w : World} {H : Hp} {ρ av : List Addr} {S : Sto} {v : V} {t : T} {n : String} (hs : RepS K w H ρ av S) (r : RepV K w H ρ av v t) (h : tyT S t = some n) : TyX K H v (.type n) ∧ n ∈ tyNames := by
  cases r with
  | non => cases h; exact ⟨.base .non, by decide⟩
  | bl b => cases h; exact ⟨.base (.bl _), by decide⟩
  | int b => cases h; exact ⟨.base (.int _), by decide⟩
  | str b => cases h; exact ⟨.base (.str _), by decide⟩
  | tup h' _ _ => cases h; exact ⟨.fTuple h', by decide⟩
  | tupK h' _ => cases h; obtain ⟨o, its, m, h1, h2, _⟩ := h'; exact ⟨.kTuple h1 h2, by decide⟩
  | lst h' _ _ _ => cases h; exact ⟨.base (.lst h'), by decide⟩
  | flst h' _ =>
    cases h
    rcases h' with ⟨o, h'⟩ | ⟨o, its, m, h1, h2, _⟩
    · exact ⟨.base (.frz h'), by decide⟩
    · exact ⟨.kList h1 h2, by decide⟩
  | @ref a i ha =>
    obtain ⟨o, ho, ro⟩ := hs.of_ref ha
    unfold tyT at h
    simp only [ho] at h
    cases o with
    | lst ts => cases h; obtain ⟨vs, h1, _⟩ := ro; exact ⟨.base (.lst h1), by decide⟩
    | dK ts => cases h; obtain ⟨vs, h1, _⟩ := ro; exact ⟨.base (.dK h1), by decide⟩
    | dT ts => cases h; obtain ⟨vs, h1, _⟩ := ro; exact ⟨.base (.dT h1), by decide⟩
    | ins c fs => exact ro.elim
  | dic h' _ _ _ =>
    cases h
    rcases h' with h' | ⟨o, h'⟩
    · exact ⟨.base (.dK h'), by decide⟩
    · exact ⟨.fDict h', by decide⟩
  | dicK h' _ _ =>
    cases h
    obtain ⟨es, m, D, _⟩ := h'
    exact ⟨.kDict D.at_ rfl, by decide⟩
/-- isinstance(e, T) -/
def dIsi (T : String) (d : DE) : DE := fun sl S => (d sl S).bind fun x S1 => match tyT S1 (fz x) with
  | some n => .ok (.bl (isaB n T)) S1
  | none => .bad
theorem le_isi {T : String} {x : Str} {p p2 pos : Pos} {e : Expr} {d : DE} (hb : T ∈ ["bool", "int", "str", "tuple", "list", "dict"]) (hg : Gl X "isinstance") (hm : X.mg "isinstance" = none) (hgT : Gl X x) (hmT : X.mg x = none) (hv : bootBuiltins x = some (.type T)) (h : LE X W e d)
    (he : starEach [e, .Name x p2] X.env = (false, eval e X.env) :: starEach [.Name x p2] X.env := by rfl) (hn : x ≠ "__name__" := by decide) (hdb : (x == ("__debug__" : Str)) = false := by decide) : LE X W (.Call (.Name "isinstance" p) [e, .Name x p2] [] pos) (dIsi T d) :=
  (pe_callB (r := rIsi X.K) (he := he) call_isi hg hm PyProof.Rows.boot_isinstance (pa_cons h (pa_cons (pe_bltn (v := .ty T) hgT hmT hv rfl hn hdb) pa_nil) he)).imp fun σ H Q ⟨ρ, av, sl, S, hs, hE, g⟩ => ⟨ρ, av, sl, S, hs, hE, GoodE.step g fun t S1 _ v H1 ρ1 e1 s1 r1 g1 => by
    cases hty : tyT S1 (fz t) with
    | none => simp only [hty] at g1; exact g1.elim
    | some n =>
      simp only [hty] at g1
      obtain ⟨k1, k2⟩ := ty_rep s1 r1.toV hty
      exact ⟨v, .ty T, .type n, .type T, isaB n T, rfl, .ty T, k1, kit_ty (kit_is k2 hb), g1.now s1 (.bl _)⟩⟩
end
end Dn

namespace Dn
open PySem PySem.Spec L2
section
variable {X : DX} {W : WX}

/-! ### what was made just now goes to the store -/
def dM (d : DE) : DE := fun sl S => (d sl S).bind fun t S1 => match t with
  | .nlst ts => .ok (.ref S1.length) (S1 ++ [.lst ts])
  | t => .ok t S1
theorem le_M {e : Expr} {d : DE} (h : LE X W e d) : LE X W e (dM d) := h.imp fun σ H Q ⟨ρ, av, sl, S, hs, he, g⟩ => ⟨ρ, av, sl, S, hs, he, by
  unfold dM at g
  cases hd : d sl S with
  | exc c fs S1 => rw [hd] at g; exact g
  | bad => rw [hd] at g; exact g
  | ok t S1 =>
    rw [hd] at g
    cases t with
    | nlst ts =>
      rintro v H1 ρ1 e1 s1 ⟨a, vs, rfl, h0, ha, n1, n2, rs⟩
      have e2 : Ext H ρ H1 (ρ1 ++ [a]) := ⟨by obtain ⟨n, q⟩ := e1.pre; exact ⟨n ++ [a], by rw [q, List.append_assoc]⟩, fun b hb => by
        rcases List.mem_append.mp hb with q | q
        · exact e1.new b q
        · rw [List.mem_singleton.mp q]; exact .inr h0, e1.keep, e1.imm, e1.dom⟩
      have rs2 : RepVs X.K X.w H1 (ρ1 ++ [a]) av vs ts := rs.push
      refine g _ H1 (ρ1 ++ [a]) e2 (RepS.push s1 n2 ⟨vs, ha, rs2⟩) (RepV.ref ?_)
      have hl : ρ1.length = _ := s1.len
      rw [← hl, List.getElem?_append_right (Nat.le_refl _)]
      simp
    | _ => exact g⟩
/-- one reading or another -/
def dOrElse (a b : DE) : DE := fun sl S => match a sl S with
  | .bad => b sl S
  | r => r
theorem le_orElse {e : Expr} {a b : DE} (ha : LE X W e a) (hb : LE X W e b) : LE X W e (dOrElse a b) := (PE.or ha hb).imp fun σ H Q ⟨ρ, av, sl, S, hs, he, g⟩ => by
  unfold dOrElse at g
  cases h : a sl S with
  | bad => rw [h] at g; exact .inr ⟨ρ, av, sl, S, hs, he, g⟩
  | ok t S1 => rw [h] at g; exact .inl ⟨ρ, av, sl, S, hs, he, by rw [h]; exact g⟩
  | exc c fs S1 => rw [h] at g; exact .inl ⟨ρ, av, sl, S, hs, he, by rw [h]; exact g⟩

/-! ### methods -/
def mTy (S : Sto) : T → Option String
  | .str _ => some "str"
  | .lst _ => some "list"
  | .flst _ => some "list"
  | .ref i => match S[i]? with
    | some (.lst _) => some "list"
    | some (.dK _) => some "dict"
    | some (.dT _) => some "dict"
    | _ => none
  | _ => none
theorem mTy_rep {K : PySem.W.Frag} {w : World} {H : Hp} {ρ av : List Addr} {S : Sto} {v : V} {t : T} {n : String} (hs : RepS K w H ρ av S) (r : RepV K w H ρ av v t) (h : mTy S t = some n) : tyV K n v H := by
  cases r with
  | str b => cases h; exact rfl
  | lst h' h1 h2 rs => cases h; exact .inl ⟨rfl, _, .inl (.inl h')⟩
  | flst h' rs => cases h; exact .inl ⟨rfl, _, h'.elim (fun ⟨o, q⟩ => .inl (.inr ⟨o, q⟩)) .inr⟩
  | @ref a i ha =>
    obtain ⟨o, ho, ro⟩ := hs.of_ref ha
    unfold mTy at h
    simp only [ho] at h
    cases o with
    | lst ts => cases h; obtain ⟨vs, h1, _⟩ := ro; exact .inl ⟨rfl, _, .inl (.inl h1)⟩
    | dK ts => cases h; obtain ⟨vs, h1, _⟩ := ro; exact .inr (.inr (.inl ⟨rfl, .inl ⟨_, h1⟩⟩))
    | dT ts => cases h; obtain ⟨vs, h1, _⟩ := ro; exact .inr (.inr (.inl ⟨rfl, .inr ⟨_, h1⟩⟩))
    | ins c fs => exact ro.elim
  | _ => cases h
def dMeth (T : String) (f : Dn.T → List Dn.T → Sto → RE) (d : DE) (da : DA) : DE := fun sl S => (d sl S).bind fun x S1 => if mTy S1 (fz x) = some T then (da sl S1).bind fun ts S2 => f (fz x) ts S2 else .bad
def OpM (X : DX) (r : V → List V → Hp → VK → Prop) (f : T → List T → Sto → RE) : Prop := ∀ (W : WX) (σ : L2.St) (H : Hp) (ρ av : List Addr) (S : Sto) (x : V) (tx : T) (vs : List V) (ts : List T) (Q : VK),
  RepS X.K X.w H ρ av S → RepV X.K X.w H ρ av x tx → RepVs X.K X.w H ρ av vs ts → GoodE X W σ H ρ av Q (f tx ts S) → r x vs H Q
theorem le_bm {T : String} {r : V → List V → Hp → VK → Prop} {f : Dn.T → List Dn.T → Sto → RE} {d : DE} {da : DA} {e : Expr} (hf : OpM X r f) (h : PE X e (tBM X.K T r (liftE X W d) (liftA X W da))) : LE X W e (dMeth T f d da) :=
  h.imp fun σ H Q ⟨ρ, av, sl, S, hs, he, g⟩ => ⟨ρ, av, sl, S, hs, he, GoodE.step g fun t S1 _ v H1 ρ1 e1 s1 r1 g1 => by
    split at g1
    · rename_i hty
      exact ⟨mTy_rep s1 r1.toV hty, ρ1, av, sl, S1, s1, he.ext e1, GoodA.step g1 fun ts S2 vs H2 ρ2 e2 s2 r2 g2 => hf W σ H2 ρ2 av S2 v _ vs ts Q s2 (r1.toV.ext e2) r2 g2⟩
    · exact g1.elim⟩
def dMeth0 (T : String) (f : Dn.T → List Dn.T → Sto → RE) (d : DE) : DE := fun sl S => (d sl S).bind fun x S1 => if mTy S1 (fz x) = some T then f (fz x) [] S1 else .bad
theorem le_bm0 {T : String} {r : V → List V → Hp → VK → Prop} {f : Dn.T → List Dn.T → Sto → RE} {d : DE} {e : Expr} (hf : OpM X r f) (h : PE X e (tBM0 X.K T r (liftE X W d))) : LE X W e (dMeth0 T f d) :=
  h.imp fun σ H Q ⟨ρ, av, sl, S, hs, he, g⟩ => ⟨ρ, av, sl, S, hs, he, GoodE.step g fun t S1 _ v H1 ρ1 e1 s1 r1 g1 => by
    split at g1
    · rename_i hty
      exact ⟨mTy_rep s1 r1.toV hty, hf W σ H1 ρ1 av S1 v _ [] [] Q s1 r1.toV .nil g1⟩
    · exact g1.elim⟩
/-- a list of the store is written -/
theorem GoodE.wrote {σ : L2.St} {H : Hp} {ρ av : List Addr} {S : Sto} {Q : VK} {t : T} {v : V} {i : Nat} {a : Addr} {us : List T} {vs : List V} (g : GoodE X W σ H ρ av Q (.ok t (S.set i (.lst us)))) (hs : RepS X.K X.w H ρ av S) (ha : ρ[i]? = some a) (ru : RepVs X.K X.w H ρ av vs us) (r : RepV X.K X.w H ρ av v t) : Q v (upd H a (.lst vs)) := by
  have e := Ext.write hs ha (.lst vs)
  have r' := r.ext e
  exact g v _ ρ e (by rw [r'.avN]; exact hs.write ha ⟨vs, upd_same, ru.ext e⟩) r'.toR
def fAppend : T → List T → Sto → RE := fun x ts S => match x, ts with
  | .ref i, [y] => (match S[i]? with
    | some (.lst us) => if us.length < sizeLine then .ok .non (S.set i (.lst (us ++ [y]))) else .bad
    | _ => .bad)
  | _, _ => .bad
theorem ref_lst {K : PySem.W.Frag} {w : World} {H : Hp} {ρ av : List Addr} {S : Sto} {v : V} {i : Nat} {us : List T} (hs : RepS K w H ρ av S) (r : RepV K w H ρ av v (.ref i)) (h : S[i]? = some (.lst us)) : ∃ a vs, v = .ref a ∧ ρ[i]? = some a ∧ H a = some (.lst vs) ∧ RepVs K w H ρ av vs us := by
  cases r with
  | @ref a _ ha =>
    obtain ⟨o, ho, ro⟩ := hs.of_ref ha
    rw [h] at ho
    cases ho
    obtain ⟨vs, h1, h2⟩ := ro
    exact ⟨a, vs, rfl, ha, h1, h2⟩
theorem om_append : OpM X rAppend fAppend := by
  intro W σ H ρ av S x tx vs ts Q hs rx rs q
  unfold fAppend at q
  split at q
  · rename_i i y
    split at q
    · rename_i us hus
      split at q
      · rename_i hl
        obtain ⟨a, zs, rfl, ha, hz, rz⟩ := ref_lst hs rx hus
        cases rs with
        | @cons vy _ _ _ r rs' =>
        cases rs'
        exact ⟨a, zs, vy, rfl, rfl, hz, by rw [rz.length]; exact hl, q.wrote hs ha (rz.append (.cons r .nil)) .non⟩
      · exact q.elim
    · exact q.elim
  · exact q.elim
def fExtend : T → List T → Sto → RE := fun x ts S => match x, ts with
  | .ref i, [y] => (match S[i]?, lstOf' S y with
    | some (.lst us), some qs => if us.length + qs.length ≤ sizeLine then .ok .non (S.set i (.lst (us ++ qs))) else .bad
    | _, _ => .bad)
  | _, _ => .bad
theorem om_extend : OpM X rExtend fExtend := by
  intro W σ H ρ av S x tx vs ts Q hs rx rs q
  unfold fExtend at q
  split at q
  · rename_i i y
    split at q
    · rename_i us qs hus hqs
      split at q
      · rename_i hl
        obtain ⟨a, zs, rfl, ha, hz, rz⟩ := ref_lst hs rx hus
        cases rs with
        | @cons vy _ _ _ r rs' =>
        cases rs'
        obtain ⟨b, ys, rfl, hb, ry⟩ := lst_rep' hs r hqs
        exact ⟨a, b, zs, ys, rfl, rfl, hz, hb, by rw [rz.length, ry.length]; exact hl, q.wrote hs ha (rz.append ry) .non⟩
      · exact q.elim
    · exact q.elim
  · exact q.elim
def fPop : T → List T → Sto → RE := fun x ts S => match x, ts with
  | .ref i, [] => (match S[i]? with
    | some (.lst us) => (match us[us.length - 1]? with
      | some t => .ok t (S.set i (.lst us.dropLast))
      | none => .bad)
    | _ => .bad)
  | _, _ => .bad
theorem RepVs.dropLast {K : PySem.W.Frag} {w : World} {H : Hp} {ρ av : List Addr} {vs : List V} {ts : List T} (r : RepVs K w H ρ av vs ts) : RepVs K w H ρ av vs.dropLast ts.dropLast := by
  rw [List.dropLast_eq_take, List.dropLast_eq_take, r.length]
  exact r.take _
theorem om_pop : OpM X rPop fPop := by
  intro W σ H ρ av S x tx vs ts Q hs rx rs q
  unfold fPop at q
  split at q
  · rename_i i
    split at q
    · rename_i us hus
      split at q
      · rename_i t ht
        obtain ⟨a, zs, rfl, ha, hz, rz⟩ := ref_lst hs rx hus
        cases rs
        obtain ⟨v, hv, r⟩ := rz.get ht
        exact ⟨a, zs, v, rfl, rfl, hz, by rw [rz.length]; exact hv, q.wrote hs ha rz.dropLast r⟩
      · exact q.elim
    · exact q.elim
  · exact q.elim
def fPopAt : T → List T → Sto → RE := fun x ts S => match x, ts with
  | .ref i, [.int j] => (match S[i]? with
    | some (.lst us) => (match seqIndex? j us.length with
      | some k => (match us[k]? with
        | some t => if -(2 ^ 63) ≤ j ∧ j < 2 ^ 63 then .ok t (S.set i (.lst (us.eraseIdx k))) else .bad
        | none => .bad)
      | none => .bad)
    | _ => .bad)
  | _, _ => .bad
theorem om_popAt : OpM X rPopAt fPopAt := by
  intro W σ H ρ av S x tx vs ts Q hs rx rs q
  unfold fPopAt at q
  split at q
  · rename_i i j
    split at q
    · rename_i us hus
      split at q
      · rename_i k hk
        split at q
        · rename_i t ht
          split at q
          · rename_i c
            obtain ⟨a, zs, rfl, ha, hz, rz⟩ := ref_lst hs rx hus
            cases rs with
            | cons r rs' =>
            cases rs'
            cases r.int_inv
            obtain ⟨v, hv, rv⟩ := rz.get ht
            exact ⟨a, zs, j, k, v, rfl, rfl, hz, c.1, c.2, by rw [rz.length]; exact hk, hv, q.wrote hs ha (rz.eraseIdx k) rv⟩
          · exact q.elim
        · exact q.elim
      · exact q.elim
    · exact q.elim
  · exact q.elim
def fInsert : T → List T → Sto → RE := fun x ts S => match x, ts with
  | .ref i, [.int j, y] => (match S[i]? with
    | some (.lst us) => if us.length < sizeLine ∧ 0 ≤ j ∧ j < 2 ^ 63 then .ok .non (S.set i (.lst (us.take j.toNat ++ [y] ++ us.drop j.toNat))) else .bad
    | _ => .bad)
  | _, _ => .bad
theorem om_insert : OpM X (fun x vs H Q => ∃ (l : Addr) (xs : List V) (i : Int) (y : V), x = .ref l ∧ vs = [.int i, y] ∧ H l = some (.lst xs) ∧ xs.length < sizeLine ∧ 0 ≤ i ∧ i < 2 ^ 63 ∧ Q .non (upd H l (.lst (xs.take i.toNat ++ [y] ++ xs.drop i.toNat)))) fInsert := by
  intro W σ H ρ av S x tx vs ts Q hs rx rs q
  unfold fInsert at q
  split at q
  · rename_i i j y
    split at q
    · rename_i us hus
      split at q
      · rename_i c
        obtain ⟨a, zs, rfl, ha, hz, rz⟩ := ref_lst hs rx hus
        cases rs with
        | cons r rs' =>
        cases rs' with
        | @cons vy _ _ _ r2 rs'' =>
        cases rs''
        cases r.int_inv
        exact ⟨a, zs, j, vy, rfl, rfl, hz, by rw [rz.length]; exact c.1, c.2.1, c.2.2, q.wrote hs ha (((rz.take _).append (.cons r2 .nil)).append (rz.drop _)) .non⟩
      · exact q.elim
    · exact q.elim
  · exact q.elim
def fIndexL : T → List T → Sto → RE := fun x ts S => match ts with
  | [y] => (match lstOf S x with
    | some us => if fit (.list (T.dats us)) && fit (dato S y) then (match (T.dats us).findIdx? fun z => PyData.eqv z (dato S y) with
        | some j => .ok (.int (j : Nat)) S
        | none => .bad) else .bad
    | none => .bad)
  | _ => .bad
theorem om_indexL : OpM X (rIndexD X.K) fIndexL := by
  intro W σ H ρ av S x tx vs ts Q hs rx rs q
  unfold fIndexL at q
  split at q
  · rename_i y
    split at q
    · rename_i us hus
      split at q
      · rename_i c
        rw [Bool.and_eq_true] at c
        split at q
        · rename_i j hj
          obtain ⟨a, zs, rfl, hq, rz⟩ := lst_rep hs rx hus
          cases rs with
          | @cons vy _ _ _ r rs' =>
          cases rs'
          have dl : DpAll X.K H zs (T.dats us) := rz.dp (by
            have := lay_of_fit c.1
            simpa [PyData.canLay0] using this)
          obtain ⟨h1, h2, h3⟩ := List.findIdx?_eq_some_iff_getElem.mp hj
          refine ⟨a, vy, dato S y, T.dats us, j, (T.dats us)[j], rfl, rfl, .lst hq dl, r.dpo hs c.2, c.1, c.2, List.getElem?_eq_getElem h1, h2, fun m z hm hz => ?_, q.now hs (.int _)⟩
          obtain ⟨l1, e1⟩ := List.getElem?_eq_some_iff.mp hz
          have := h3 m hm
          rw [e1] at this
          simpa using this
        · exact q.elim
      · exact q.elim
    · exact q.elim
  · exact q.elim
def fIndexS : T → List T → Sto → RE := fun x ts S => match x, ts with
  | .str a, [.str b] => (match Builtin.Str.occurrences a b 0 a.length 1 with
    | i :: _ => .ok (.int (i : Nat)) S
    | [] => .bad)
  | _, _ => .bad
theorem om_indexS : OpM X (fun x xs H Q => ∃ a b i rest, x = .str a ∧ xs = [.str b] ∧ Builtin.Str.occurrences a b 0 a.length 1 = i :: rest ∧ Q (.int (i : Nat)) H) fIndexS := by
  intro W σ H ρ av S x tx vs ts Q hs rx rs q
  unfold fIndexS at q
  split at q
  · split at q
    · rename_i i rest e
      cases rs with
      | cons r rs' =>
      cases rs'
      cases r.str_inv; cases rx.str_inv
      exact ⟨_, _, i, rest, rfl, rfl, e, q.now hs (.int _)⟩
    · exact q.elim
  · exact q.elim
def strsT : List T → Option (List Str)
  | [] => some []
  | .str i :: ts => (strsT ts).map (i :: ·)
  | _ => none
theorem strs_rep {K : PySem.W.Frag} {w : World} {H : Hp} {ρ av : List Addr} : ∀ {vs : List V} {ts : List T} {ns : List Str}, RepVs K w H ρ av vs ts → strsT ts = some ns → vs = ns.map V.str
  | _, _, _, .nil, h => by cases h; rfl
  | _, _, ns, .cons (t := t) (ts := ts) r rs, h => by
    unfold strsT at h
    split at h
    · rename_i e; cases e
    · rename_i i us e
      cases e
      obtain ⟨ms, e1, rfl⟩ := Option.map_eq_some_iff.mp h
      cases r.str_inv
      rw [strs_rep rs e1]; rfl
    · cases h
def fJoin : T → List T → Sto → RE := fun x ts S => match x, ts with
  | .str a, [y] => (match seqOf S y with
    | some us => (match strsT us with
      | some ys => if (ys.map (·.length)).sum + ys.length * a.length ≤ 16777216 then .ok (.str (Txt.join a ys)) S else .bad
      | none => .bad)
    | none => .bad)
  | _, _ => .bad
theorem om_join : OpM X (fun x xs H Q => ∃ a p, ∃ ys : List Str, x = .str a ∧ xs = [.ref p] ∧ (SqL X.K H p (ys.map V.str) ∨ SqT X.K H p (ys.map V.str)) ∧
    (ys.map (·.length)).sum + ys.length * a.length ≤ 16777216 ∧ Q (.str (Txt.join a ys)) H) fJoin := by
  intro W σ H ρ av S x tx vs ts Q hs rx rs q
  unfold fJoin at q
  split at q
  · rename_i a y
    split at q
    · rename_i us hus
      split at q
      · rename_i ys hys
        split at q
        · rename_i hl
          cases rs with
          | @cons vy _ _ _ r rs' =>
          cases rs'
          obtain ⟨b, zs, rfl, hq, rz⟩ := seq_rep hs r hus
          have e := strs_rep rz hys
          subst e
          cases rx.str_inv
          exact ⟨a, b, ys, rfl, rfl, hq, hl, q.now hs (.str _)⟩
        · exact q.elim
      · exact q.elim
    · exact q.elim
  · exact q.elim

variable {o e f : Expr} {es : List Expr} {pos apos cpos : Pos} {d : DE} {da : DA}
/-- the places of a method's call: all by rfl -/
structure MPl (X : DX) (o : Expr) (m : Str) (apos : Pos) (e : Expr) (es : List Expr) (cpos : Pos) : Prop where
  base : attributeBase o m X.env (eval o X.env) = eval o X.env
  few : ((backTo cpos (starEach (e :: es) X.env)).all (fun x => !x.1) && (backToKw cpos (keywordEach [] X.env)).all (fun x => x.1.isSome)
      && decide ((e :: es).length + ([] : List Keyword).length + (if ([] : List Keyword).isEmpty then 0 else 1) < 30)) = true
  line : (apos.endLine == cpos.line) = true
  star : starEach (e :: es) X.env = (false, eval e X.env) :: starEach es X.env
  plain : (backTo cpos (starEach es X.env)).any (·.1) = false
structure MPl0 (X : DX) (o : Expr) (m : Str) (apos : Pos) (cpos : Pos) : Prop where
  base : attributeBase o m X.env (eval o X.env) = eval o X.env
  line : (apos.endLine == cpos.line) = true
theorem le_append (h : LE X W o d) (ha : LA X W (e :: es) da) (m : MPl X o "append" apos e es cpos) : LE X W (.Call (.Attribute o "append" apos) (e :: es) [] cpos) (dMeth "list" fAppend d da) :=
  le_bm om_append (pe_bm PySem.F.plainAttrs_list PySem.F.slot_list_append PySem.F.type_list_append mt_append h ha m.base m.few m.line m.star m.plain)
theorem le_extend (h : LE X W o d) (ha : LA X W (e :: es) da) (m : MPl X o "extend" apos e es cpos) : LE X W (.Call (.Attribute o "extend" apos) (e :: es) [] cpos) (dMeth "list" fExtend d da) :=
  le_bm om_extend (pe_bm PySem.F.plainAttrs_list PySem.F.slot_list_extend PySem.F.type_list_extend mt_extend h ha m.base m.few m.line m.star m.plain)
theorem le_popAt (h : LE X W o d) (ha : LA X W (e :: es) da) (m : MPl X o "pop" apos e es cpos) : LE X W (.Call (.Attribute o "pop" apos) (e :: es) [] cpos) (dMeth "list" fPopAt d da) :=
  le_bm om_popAt (pe_bm PySem.F.plainAttrs_list PySem.F.slot_list_pop PySem.F.type_list_pop mt_popAt h ha m.base m.few m.line m.star m.plain)
theorem le_pop (h : LE X W o d) (m : MPl0 X o "pop" apos cpos) : LE X W (.Call (.Attribute o "pop" apos) [] [] cpos) (dMeth0 "list" fPop d) :=
  le_bm0 om_pop (pe_bm0 PySem.F.plainAttrs_list PySem.F.slot_list_pop PySem.F.type_list_pop mt_pop h m.base m.line)
theorem le_insert (h : LE X W o d) (ha : LA X W (e :: es) da) (m : MPl X o "insert" apos e es cpos) : LE X W (.Call (.Attribute o "insert" apos) (e :: es) [] cpos) (dMeth "list" fInsert d da) :=
  le_bm om_insert (pe_bm PySem.F.plainAttrs_list PySem.F.slot_list_insert PySem.F.type_list_insert mt_insert h ha m.base m.few m.line m.star m.plain)
theorem le_indexL (hu : X.A.units + 65 < cLine) (h : LE X W o d) (ha : LA X W (e :: es) da) (m : MPl X o "index" apos e es cpos) : LE X W (.Call (.Attribute o "index" apos) (e :: es) [] cpos) (dMeth "list" fIndexL d da) :=
  le_bm om_indexL (pe_bm PySem.F.plainAttrs_list PySem.F.slot_list_index PySem.F.type_list_index (mt_indexD hu) h ha m.base m.few m.line m.star m.plain)
theorem le_indexS (h : LE X W o d) (ha : LA X W (e :: es) da) (m : MPl X o "index" apos e es cpos) : LE X W (.Call (.Attribute o "index" apos) (e :: es) [] cpos) (dMeth "str" fIndexS d da) :=
  le_bm om_indexS (pe_bm PySem.F.plainAttrs_str PySem.F.slot_str_index PySem.F.type_str_index mt_sindex h ha m.base m.few m.line m.star m.plain)
theorem le_index (hu : X.A.units + 65 < cLine) (h : LE X W o d) (ha : LA X W (e :: es) da) (m : MPl X o "index" apos e es cpos) : LE X W (.Call (.Attribute o "index" apos) (e :: es) [] cpos) (dOrElse (dMeth "str" fIndexS d da) (dMeth "list" fIndexL d da)) := le_orElse (le_indexS h ha m) (le_indexL hu h ha m)
theorem le_join (h : LE X W o d) (ha : LA X W (e :: es) da) (m : MPl X o "join" apos e es cpos) : LE X W (.Call (.Attribute o "join" apos) (e :: es) [] cpos) (dMeth "str" fJoin d da) :=
  le_bm om_join (pe_bm PySem.F.plainAttrs_str PySem.F.slot_str_join PySem.F.type_str_join mt_join h ha m.base m.few m.line m.star m.plain)
/-- t.index(x), t a tuple of texts -/
def fIndexT : List T → List T → Sto → RE := fun us ts S => match ts with
  | [.str z] => (match strsT us with
    | some ys => (match ys.findIdx? fun y => decide (y = z) with
      | some j => .ok (.int (j : Nat)) S
      | none => .bad)
    | none => .bad)
  | _ => .bad
def dIndexT (d : DE) (da : DA) : DE := fun sl S => (d sl S).bind fun x S1 => match fz x with
  | .tup us => (da sl S1).bind fun ts S2 => fIndexT us ts S2
  | _ => .bad
theorem le_indexT (h : LE X W o d) (ha : LA X W (e :: es) da) (m : MPl X o "index" apos e es cpos) : LE X W (.Call (.Attribute o "index" apos) (e :: es) [] cpos) (dIndexT d da) :=
  (pe_bmT PySem.F.plainAttrs_tuple PySem.F.slot_tuple_index PySem.F.type_tuple_index mt_tup_index h ha m.base m.few m.line m.star m.plain).imp fun σ H Q ⟨ρ, av, sl, S, hs, he, g⟩ => ⟨ρ, av, sl, S, hs, he, GoodE.step g fun t S1 _ v H1 ρ1 e1 s1 r1 g1 => by
    split at g1
    · rename_i us hu
      have r2 := r1.toV
      rw [hu] at r2
      cases r2 with
      | @tup a o vs _ hh hd rs =>
        refine ⟨⟨a, o, vs, rfl, hh, hd⟩, ρ1, av, sl, S1, s1, he.ext e1, GoodA.step g1 fun ts S2 ws H2 ρ2 e2 s2 rw2 g2 => ?_⟩
        unfold fIndexT at g2
        split at g2
        · rename_i z
          split at g2
          · rename_i ys hys
            split at g2
            · rename_i j hj
              have hv := strs_rep rs hys
              cases rw2 with
              | cons rz rn =>
              cases rn
              cases rz.str_inv
              obtain ⟨q1, q2, q3⟩ := List.findIdx?_eq_some_iff_getElem.mp hj
              refine ⟨a, ys, z, j, rfl, rfl, .inl (.inr ⟨o, ?_⟩), ?_, fun k hk hz => ?_, g2.now s2 (.int _)⟩
              · rw [← hv]; exact e2.imm _ _ trivial hh
              · rw [List.getElem?_eq_getElem q1]
                exact congrArg some (of_decide_eq_true q2)
              · obtain ⟨l1, e3⟩ := List.getElem?_eq_some_iff.mp hz
                exact q3 k hk (decide_eq_true e3)
            · exact g2.elim
          · exact g2.elim
        · exact g2.elim
    · exact g1.elim⟩
theorem le_index3 (hu : X.A.units + 65 < cLine) (h : LE X W o d) (ha : LA X W (e :: es) da) (m : MPl X o "index" apos e es cpos) : LE X W (.Call (.Attribute o "index" apos) (e :: es) [] cpos) (dOrElse (dIndexT d da) (dOrElse (dMeth "str" fIndexS d da) (dMeth "list" fIndexL d da))) := le_orElse (le_indexT h ha m) (le_index hu h ha m)
end
end Dn

/-! t.count(x), min(t), t a tuple of data (variant F) -/
namespace Dn
open PySem PySem.Spec L2
section
variable {X : Cx}
def rTCount (K : PySem.W.Frag) : V → List V → Hp → VK → Prop := fun x xs H Q => ∃ (b : Addr) (us : List V) (y : V) (d : PyData) (ds : List PyData), x = .ref b ∧ xs = [y] ∧ SqT K H b us ∧ DpAll K H us ds ∧ Dp K H y d ∧ SeqAt.shaped (.list ds) = true ∧ SeqAt.shaped d = true ∧ Q (.int (ds.countP fun z => PyData.eqv z d : Nat)) H
theorem mt_tcount (hu : X.A.units + 65 < cLine) : MtR X "tuple.count" (rTCount X.K) := by
  intro pins s σ H x xs v ws Q I rx rs h
  obtain ⟨b, us, y, d, ds, ex, exs, hT, hd, hy, sl, sd, q⟩ := h
  subst ex
  subst exs
  cases rx
  obtain ⟨u, eu, ru⟩ := vals1 rs
  subst eu
  obtain ⟨its, rv, ⟨⟨cl, dd, dat, slt⟩, hob, hcl, n, hdat⟩, _⟩ := I.tuple hT
  simp only at hcl hdat
  subst hcl
  subst hdat
  obtain ⟨bs, r1⟩ := Dp.reads I d y u hy ru
  obtain ⟨as, r2⟩ := Dp.readsAll I ds _ its hd rv
  have cl0 : PyData.canLayAll0 ds = true := SeqAt.canLay_of_shaped sl
  have hm := SeqAt.readsAll_map ds its as cl0 r2
  have e : its.toArray.toList.countP (fun w => PyData.eqv (SeqAt.readOf s.heap w) d) = ds.countP fun z => PyData.eqv z d := by
    rw [← hm, List.countP_map]
    rfl
  refine call_meets PySem.F.slot_tuple_count ⟨_, hob, rfl⟩ PySem.F.entry_tuple_count (PySem.F.args_tuple_count_2 _ _) (SeqAt.tuple_countAt b its.toArray n dd slt u fun w => PyData.eqv (SeqAt.readOf s.heap w) d) ⟨hob, SeqAt.items_eqAt (vs := its.toArray) (show ReadsAll s.heap its.toArray.toList ds as from r2) r1 cl0 (SeqAt.canLay_of_shaped sd) (PyProof.Rows.room_in_shaped sd hu), ?_⟩
  rw [e]
  exact ⟨.int (ds.countP fun z => PyData.eqv z d : Nat), H, I.tok _, ⟨_, rfl⟩, q⟩
theorem minD_mem (d : PyData) : ∀ ds : List PyData, PySem.W.minD d ds ∈ d :: ds
  | [] => List.mem_cons_self
  | e :: ds => by
    have h : PySem.W.minD d (e :: ds) = PySem.W.minD (if PySem.W.dataLt e d then e else d) ds := rfl
    rw [h]
    have := minD_mem (if PySem.W.dataLt e d then e else d) ds
    rcases List.mem_cons.mp this with z | z
    · rw [z]
      split
      · exact List.mem_cons_of_mem _ List.mem_cons_self
      · exact List.mem_cons_self
    · exact List.mem_cons_of_mem _ (List.mem_cons_of_mem _ z)
theorem DpAll.len {K : PySem.W.Frag} {H : Hp} : ∀ {us : List V} {ds : List PyData}, DpAll K H us ds → us.length = ds.length
  | _, _, .nil => rfl
  | _, _, .cons _ t => by rw [List.length_cons, List.length_cons, DpAll.len t]
def rMinT (K : PySem.W.Frag) : List V → Hp → VK → Prop := fun xs H Q => ∃ (b : Addr) (us : List V) (d : PyData) (ds : List PyData), xs = [.ref b] ∧ SqT K H b us ∧ DpAll K H us (d :: ds) ∧ PySem.W.AlikeAll (d :: ds) ∧ SeqAt.shaped (.list (d :: ds)) = true ∧ PyData.depthAll (d :: ds) ≤ 60 ∧
  ∀ (i : Nat) (x : V), us[i]? = some x → (d :: ds)[i]? = some (PySem.W.minD d ds) → Q x H
theorem cr_minT (hcalm : X.calm = true) (hu : X.A.units + 65 < cLine) : CallR X (.builtin "min") (rMinT X.K) := by
  intro pins s σ H xs ws Q I r h
  obtain ⟨b, us, d, ds, ex, hT, hd, hal, sl, dp, q⟩ := h
  subst ex
  obtain ⟨u, eu, ru⟩ := vals1 r
  subst eu
  cases ru
  obtain ⟨its, rv, pl, _⟩ := I.tuple hT
  obtain ⟨as, r2⟩ := Dp.readsAll I (d :: ds) _ its hd rv
  have cl0 : PyData.canLayAll0 (d :: ds) = true := SeqAt.canLay_of_shaped sl
  refine PySem.W.min_tuple_data (I.ok.hd hcalm) pl (show ReadsAll s.heap its.toArray.toList (d :: ds) as from r2) hal (by show X.A.units + 1 + _ < _; omega) fun i v h' tk bs hv hr hk => ?_
  obtain ⟨cs, r3, hi, hmem, _⟩ := PySem.W.readsAll_atA (show ReadsAll s.heap its.toArray.toList (d :: ds) as from r2) i v hv
  have lay : ∀ z ∈ d :: ds, z.canLay0 = true := fun z hz => PyData.canLay0_of_mem _ z cl0 hz
  have e2 : SeqAt.readOf h' v = (d :: ds).getD i .none := SeqAt.readOf_eq (lay _ hmem) (PySem.W.reads_keeps hk r3)
  have e1 : SeqAt.readOf h' v = PySem.W.minD d ds := SeqAt.readOf_eq (lay _ (minD_mem d ds)) hr
  have hiu : i < us.length := by rw [DpAll.len hd]; exact hi
  have hx : us[i]? = some us[i] := List.getElem?_eq_getElem hiu
  obtain ⟨w, hw, rw'⟩ := rv.get hx
  have ew : w = v := by
    have : its[i]? = some v := by rw [← hv]; simp
    rw [hw] at this
    exact Option.some.inj this
  subst ew
  refine ⟨us[i], H, I.kept (t' := tk) hk, rw', q i _ hx ?_⟩
  rw [e1] at e2
  rw [e2, List.getD_eq_getElem?_getD, List.getElem?_eq_getElem hi]
  rfl
end
section
variable {X : DX} {W : WX} {o e : Expr} {es : List Expr} {apos cpos pos p : Pos} {d : DE} {da : DA}
def fCountT : List T → List T → Sto → RE := fun us ts S => match ts with
  | [y] => if fit (.list (T.dats us)) && fit (dato S y) then .ok (.int ((T.dats us).countP fun z => PyData.eqv z (dato S y) : Nat)) S else .bad
  | _ => .bad
def dCountT (d : DE) (da : DA) : DE := fun sl S => (d sl S).bind fun x S1 => match fz x with
  | .tup us => (da sl S1).bind fun ts S2 => fCountT us ts S2
  | _ => .bad
theorem le_countT (hu : X.A.units + 65 < cLine) (h : LE X W o d) (ha : LA X W (e :: es) da) (m : MPl X o "count" apos e es cpos) : LE X W (.Call (.Attribute o "count" apos) (e :: es) [] cpos) (dCountT d da) :=
  (pe_bmT PySem.F.plainAttrs_tuple PySem.F.slot_tuple_count PySem.F.type_tuple_count (mt_tcount hu) h ha m.base m.few m.line m.star m.plain).imp fun σ H Q ⟨ρ, av, sl, S, hs, he, g⟩ => ⟨ρ, av, sl, S, hs, he, GoodE.step g fun t S1 _ v H1 ρ1 e1 s1 r1 g1 => by
    split at g1
    · rename_i us hu
      have r2 := r1.toV
      rw [hu] at r2
      cases r2 with
      | @tup a o vs _ hh hd rs =>
        refine ⟨⟨a, o, vs, rfl, hh, hd⟩, ρ1, av, sl, S1, s1, he.ext e1, GoodA.step g1 fun ts S2 ws H2 ρ2 e2 s2 rw2 g2 => ?_⟩
        unfold fCountT at g2
        split at g2
        · rename_i y
          split at g2
          · rename_i c
            rw [Bool.and_eq_true] at c
            cases rw2 with
            | cons ry rn =>
            cases rn
            refine ⟨a, vs, _, dato S2 y, T.dats us, rfl, rfl, .inl (.inr ⟨o, e2.imm _ _ trivial hh⟩), (RepVs.ext e2 rs).dp (by
              have := lay_of_fit c.1
              simpa [PyData.canLay0] using this), ry.dpo s2 c.2, c.1, c.2, g2.now s2 (.int _)⟩
          · exact g2.elim
        · exact g2.elim
    · exact g1.elim⟩
open Classical in
noncomputable def fMin1 : List T → Sto → RE := fun xs S => match xs with
  | [.tup (t :: ts)] => if h : (fit (.list (T.dats (t :: ts))) = true ∧ PySem.W.AlikeAll (T.dats (t :: ts)) ∧ PyData.depthAll (T.dats (t :: ts)) ≤ 60 ∧ ∃ u, ∀ (i : Nat) (y : T), (t :: ts)[i]? = some y → y.dat = PySem.W.minD t.dat (T.dats ts) → y = u) then .ok (Classical.choose h.2.2.2) S else .bad
  | _ => .bad
theorem dats_get : ∀ (ts : List T) (i : Nat), (T.dats ts)[i]? = ts[i]?.map T.dat
  | [], i => by simp [T.dats]
  | t :: ts, 0 => by simp [T.dats]
  | t :: ts, i + 1 => by simp [T.dats, dats_get ts i]
theorem od_min1 : OpDs X (rMinT X.K) fMin1 := by
  intro W σ H ρ av S vs ts Q hs rs q
  unfold fMin1 at q
  split at q
  · rename_i t ts
    split at q
    · rename_i c
      have hc := Classical.choose_spec c.2.2.2
      cases rs with
      | cons r rs' =>
      cases rs'
      obtain ⟨a, us, rfl, ha, ra⟩ := tup_rep r
      have dl : DpAll X.K H us (T.dats (t :: ts)) := ra.dp (by
        have := lay_of_fit c.1
        simpa [PyData.canLay0] using this)
      refine ⟨a, us, t.dat, T.dats ts, rfl, ha, dl, c.2.1, c.1, c.2.2.1, fun i x hx hi => ?_⟩
      obtain ⟨y, hy, ry⟩ := ra.getV hx
      have e1 : (T.dats (t :: ts))[i]? = some (PySem.W.minD t.dat (T.dats ts)) := hi
      rw [dats_get, hy] at e1
      have := hc i y hy (Option.some.inj e1)
      rw [← this] at q
      exact q.now hs ry
    · exact q.elim
  · exact q.elim
theorem le_min1 (hc : X.calm = true) (hu : X.A.units + 65 < cLine) (hg : Gl X "min") (hm : X.mg "min" = none) (ha : LA X W (e :: es) da) (he : starEach (e :: es) X.env = (false, eval e X.env) :: starEach es X.env := by rfl) (hpl : (backTo pos (starEach es X.env)).any (·.1) = false := by rfl) : LE X W (.Call (.Name "min" p) (e :: es) [] pos) (dCall fMin1 da) :=
  le_blt od_min1 (pe_callB (cr_minT hc hu) hg hm PyProof.Rows.boot_min ha (he := he) (hpl := hpl))
end
end Dn

namespace Dn
open PySem PySem.Spec L2

/-! ### dict displays -/
def putT {κ : Type} [DecidableEq κ] (kvs : List (κ × T)) (k : κ) (t : T) : List (κ × T) := if (kvs.any fun kv => decide (kv.1 = k)) = true then kvs.map (fun kv => if kv.1 = k then (kv.1, t) else kv) else kvs ++ [(k, t)]
def mergeT (kvs more : List (Key × T)) : List (Key × T) := more.foldl (fun acc kv => putT acc kv.1 kv.2) kvs
section
variable {K : PySem.W.Frag} {w : World} {H H' : Hp} {ρ av : List Addr}
theorem RepKd.merge : ∀ {more : List (Key × V)} {moreT : List (Key × T)} {kvs : List (Key × V)} {ts : List (Key × T)}, RepKd K w H ρ av more moreT → RepKd K w H ρ av kvs ts → RepKd K w H ρ av (mergeK kvs more) (mergeT ts moreT)
  | _, _, _, _, .nil, s => s
  | p :: _, q :: _, kvs, ts, .cons r rs, s => by
    have h1 : p.1 = q.1 := r.1
    show RepKd K w H ρ av (mergeK (putK kvs p.1 p.2) _) (mergeT (putT ts q.1 q.2) _)
    refine RepKd.merge rs ?_
    rw [h1]
    exact RepKd.put r.2 s
theorem RepKd.ks : ∀ {vs : List (Key × V)} {ts : List (Key × T)}, RepKd K w H ρ av vs ts → RepKs K w H ρ av vs ts
  | _, _, .nil => .nil
  | (k, v) :: _, (k', t) :: _, .cons r rs => by
    have h1 : k = k' := r.1
    subst h1
    exact .cons r.2 (RepKd.ks rs)
/-- what avoids p stays when p is written -/
theorem Ext.dodge {p : Addr} {u o : HO} (hp : H p = some u) (ni : ¬ Imm u) : Ext H (ρ ++ [p]) (upd H p o) (ρ ++ [p]) :=
  ⟨⟨[], by simp⟩, fun _ h => .inl h, fun b v hb hv => by rw [upd_ne (fun z => hb (by rw [z]; simp))]; exact hv, fun b v hi hv => by
    rw [upd_ne (fun z => by rw [z, hp] at hv; cases hv; exact ni hi)]; exact hv, fun b hb => by
    by_cases z : b = p
    · rw [z, upd_same] at hb; cases hb
    · rw [upd_ne z] at hb; exact hb⟩
theorem RepV.dodge {p : Addr} {u o : HO} (hp : H p = some u) (ni : ¬ Imm u) {v : V} {t : T} (r : RepV K w H ρ (p :: av) v t) : RepV K w (L2.upd H p o) ρ (p :: av) v t :=
  RepV.cut (new := [p]) (as := [p]) (fun _ h => h) (r.push.ext (Ext.dodge hp ni)) r.lt
theorem RepVs.dodge {p : Addr} {u o : HO} (hp : H p = some u) (ni : ¬ Imm u) {v : List V} {t : List T} (r : RepVs K w H ρ (p :: av) v t) : RepVs K w (L2.upd H p o) ρ (p :: av) v t :=
  RepVs.cut (new := [p]) (as := [p]) (fun _ h => h) (r.push.ext (Ext.dodge hp ni)) r.lt
theorem RepKd.dodge {κ : Type} {p : Addr} {u o : HO} (hp : H p = some u) (ni : ¬ Imm u) {vs : List (κ × V)} {ts : List (κ × T)} (r : RepKd K w H ρ (p :: av) vs ts) : RepKd K w (L2.upd H p o) ρ (p :: av) vs ts := Paired.mono (fun _ _ h => ⟨h.1, h.2.dodge hp ni⟩) r
theorem RepKd.less {κ : Type} {av' : List Addr} (s : ∀ a ∈ av', a ∈ av) {vs : List (κ × V)} {ts : List (κ × T)} (r : RepKd K w H ρ av vs ts) : RepKd K w H ρ av' vs ts := Paired.mono (fun _ _ h => ⟨h.1, h.2.less s⟩) r
theorem RepS.dodge {p : Addr} {u o : HO} {S : Sto} (hp : H p = some u) (ni : ¬ Imm u) (s : RepS K w H ρ (p :: av) S) : RepS K w (L2.upd H p o) ρ (p :: av) S := by
  have np : p ∉ ρ := (s.out p List.mem_cons_self).2
  refine ⟨s.len, s.nd, fun i a ob h1 h2 => ?_, fun a ha => ⟨fun z => ?_, (s.out a ha).2⟩⟩
  · have ne : a ≠ p := fun z => np (by rw [← z]; exact List.mem_of_getElem? h1)
    have ro := s.obj i a ob h1 h2
    cases ob with
    | lst ts => obtain ⟨vs, q1, q2⟩ := ro; exact ⟨vs, by rw [upd_ne ne]; exact q1, q2.dodge hp ni⟩
    | dK ts => obtain ⟨vs, q1, q2⟩ := ro; exact ⟨vs, by rw [upd_ne ne]; exact q1, q2.dodge hp ni⟩
    | dT ts => obtain ⟨vs, q1, q2⟩ := ro; exact ⟨vs, by rw [upd_ne ne]; exact q1, q2.dodge hp ni⟩
    | ins c fs => exact ro.elim
  · by_cases e : a = p
    · rw [e, upd_same] at z; cases z
    · rw [upd_ne e] at z; exact (s.out a ha).1 z
end
section
variable {X : DX} {W : WX}
inductive RP where
  | ok (kvs : List (Key × T)) (S : Sto) | exc (c : Str) (fs : Flds) (S : Sto) | bad
def dPairs : List (DE × DE) → Sl → Sto → RP
  | [], _, S => .ok [] S
  | (dk, dv) :: r, sl, S => match dk sl S with
    | .ok k S1 => (match dv sl S1 with
      | .ok v S2 => (match dPairs r sl S2 with
        | .ok kvs S3 => (match keyT (fz k) with
          | some q => .ok ((q, fz v) :: kvs) S3
          | none => .bad)
        | r => r)
      | .exc c fs S2 => .exc c fs S2
      | .bad => .bad)
    | .exc c fs S1 => .exc c fs S1
    | .bad => .bad
def GoodP (X : DX) (W : WX) (σ : L2.St) (H : Hp) (ρ av : List Addr) (Q : List (V × V) → Hp → Prop) : RP → Prop
  | .ok kvs S' => ∀ vs H' ρ', Ext H ρ H' ρ' → RepS X.K X.w H' ρ' av S' → RepKd X.K X.w H' ρ' av vs kvs → Q (vs.map fun kv => (kV kv.1, kv.2)) H'
  | .exc c fs S' => ∀ cls dd H' ρ', Ext H ρ H' ρ' → RepS X.K X.w H' ρ' av S' → RepX X.K X.w H' ρ' av X.mg cls dd c fs → W cls dd σ H'
  | .bad => False
abbrev trsOf (X : DX) (W : WX) (ds : List (DE × DE)) : List (TE × TE) := ds.map fun p => (liftE X W p.1, liftE X W p.2)
theorem pairs_run {σ : L2.St} : ∀ (ds : List (DE × DE)) (H : Hp) (ρ av : List Addr) (sl : Sl) (S : Sto) (Q : List (V × V) → Hp → Prop), RepS X.K X.w H ρ av S → RepE X.K X.w X.pin H ρ av σ sl → GoodP X W σ H ρ av Q (dPairs ds sl S) → tPairs (trsOf X W ds) σ H Q
  | [], H, ρ, av, sl, S, Q, hs, he, g => g [] H ρ (Ext.refl _ _) hs .nil
  | (dk, dv) :: r, H, ρ, av, sl, S, Q, hs, he, g => by
    refine ⟨ρ, av, sl, S, hs, he, ?_⟩
    unfold dPairs at g
    show GoodE X W σ H ρ av _ (dk sl S)
    cases hk : dk sl S with
    | exc c fs S1 => simp only [hk] at g; exact g
    | bad => simp only [hk] at g; exact g
    | ok k S1 =>
      simp only [hk] at g
      intro vk H1 ρ1 e1 s1 r1
      have s1 := s1.ofN
      refine ⟨ρ1, av, sl, S1, s1, he.ext e1, ?_⟩
      show GoodE X W σ H1 ρ1 av _ (dv sl S1)
      cases hv : dv sl S1 with
      | exc c fs S2 => simp only [hv] at g; exact fun cls dd H' ρ' e s x => g cls dd H' ρ' (e1.trans e) s x
      | bad => simp only [hv] at g; exact g
      | ok v S2 =>
        simp only [hv] at g
        intro vv H2 ρ2 e2 s2 r2
        have s2 := s2.ofN
        refine pairs_run r H2 ρ2 av sl S2 _ s2 ((he.ext e1).ext e2) ?_
        cases hr : dPairs r sl S2 with
        | exc c fs S3 => simp only [hr] at g; exact fun cls dd H' ρ' e s x => g cls dd H' ρ' ((e1.trans e2).trans e) s x
        | bad => simp only [hr] at g; exact g
        | ok kvs S3 =>
          simp only [hr] at g
          cases hq : keyT (fz k) with
          | none => simp only [hq] at g; exact g.elim
          | some q =>
            simp only [hq] at g
            intro vs H3 ρ3 e3 s3 r3
            have ek : vk = kV q := keyT_rep r1.toV hq
            have := g ((q, vv) :: vs) H3 ρ3 ((e1.trans e2).trans e3) s3 (.cons ⟨rfl, r2.toV.ext e3⟩ r3)
            rw [List.map_cons] at this
            rw [ek]
            exact this
def RP.bind (r : RP) (f : List (Key × T) → Sto → RE) : RE := match r with
  | .ok kvs S => f kvs S
  | .exc c fs S => .exc c fs S
  | .bad => .bad
/-- {k: v, ..}, nobody changes it -/
def dDisp (ds : List (DE × DE)) : DE := fun sl S => (dPairs ds sl S).bind fun kvs S1 => if kvs.length ≤ 15 then .ok (.dic (mergeT [] kvs)) S1 else .bad
/-- .., put into the store -/
def dDispM (ds : List (DE × DE)) : DE := fun sl S => (dPairs ds sl S).bind fun kvs S1 => if kvs.length ≤ 15 then RE.ok (T.ref S1.length) (S1 ++ [MO.dK (mergeT [] kvs)]) else .bad
abbrev LPs (X : DX) (W : WX) (pos : Pos) (keys : List (Option Expr)) (values : List Expr) (ds : List (DE × DE)) : Prop := PPs X pos keys values (trsOf X W ds)
theorem lps_nil {pos : Pos} : LPs X W pos [] [] [] := pps_nil
theorem lps_cons {pos : Pos} {k v : Expr} {ks : List (Option Expr)} {vs : List Expr} {dk dv : DE} {ds : List (DE × DE)} (hk : LE X W k dk) (hv : LE X W v dv) (hr : LPs X W pos ks vs ds) : LPs X W pos (some k :: ks) (v :: vs) ((dk, dv) :: ds) := pps_cons hk hv hr
theorem laid_dict {K : PySem.W.Frag} {w : World} {H : Hp} {ρ av : List Addr} {S : Sto} (hs : RepS K w H ρ av S) {p : Addr} (hp : H p = none) : Ext H ρ (upd H p (.dK [])) ρ ∧ RepS K w (upd H p (.dK [])) ρ (p :: av) S := ⟨Ext.laid hs hp _, hs.laidN hp _⟩
theorem Ext.over {H H2 : Hp} {ρ ρ2 : List Addr} {p : Addr} {u o : HO} (hp : H p = none) (e : Ext H ρ H2 ρ2) (h2 : H2 p = some u) : Ext H ρ (upd H2 p o) ρ2 :=
  ⟨e.pre, e.new, fun a v ha hv => by rw [upd_ne (fun z => by rw [z, hp] at hv; cases hv)]; exact e.keep a v ha hv, fun a v hi hv => by rw [upd_ne (fun z => by rw [z, hp] at hv; cases hv)]; exact e.imm a v hi hv, fun a ha => by
    by_cases z : a = p
    · rw [z]; exact hp
    · rw [upd_ne z] at ha; exact e.dom a ha⟩
theorem disp_core {σ : L2.St} {H : Hp} {ρ av : List Addr} {sl : Sl} {S : Sto} {ds : List (DE × DE)} {Q : VK} {f : List (Key × T) → Sto → RE} (hs : RepS X.K X.w H ρ av S) (he : RepE X.K X.w X.pin H ρ av σ sl) (g : GoodE X W σ H ρ av Q ((dPairs ds sl S).bind fun kvs S1 => if kvs.length ≤ 15 then f kvs S1 else .bad))
    (h : ∀ kvs S1 (vs : List (Key × V)) H2 ρ2 p, H p = none → Ext H ρ H2 ρ2 → H2 p = some (.dK []) → RepS X.K X.w (upd H2 p (.dK (mergeK [] vs))) ρ2 (p :: av) S1 → RepKd X.K X.w (upd H2 p (.dK (mergeK [] vs))) ρ2 (p :: av) (mergeK [] vs) (mergeT [] kvs) → p ∉ av → p ∉ ρ2 →
      GoodE X W σ H ρ av Q (f kvs S1) → Q (.ref p) (upd H2 p (.dK (mergeK [] vs)))) : tDisp (trsOf X W ds) σ H Q := by
  intro p hp
  obtain ⟨e0, s0⟩ := laid_dict hs hp
  have np := notin_new hs hp
  have he0 : RepE X.K X.w X.pin (upd H p (.dK [])) ρ (p :: av) σ sl := he.to (fun q2 => (q2.more hp).ext e0) fun d vs z1 z2 z3 => ⟨e0.keep _ _ z2 z1, z2, fun z => (List.mem_cons.mp z).elim (fun z => by rw [z, hp] at z1; cases z1) z3⟩
  refine pairs_run ds _ ρ (p :: av) sl S _ s0 he0 ?_
  cases hd : dPairs ds sl S with
  | exc c fs S1 =>
    rw [hd] at g
    intro cls dd H' ρ' e s x
    obtain ⟨C, x1, x2, d, vs, x3, x4, x5, x6, x7⟩ := x
    exact g cls dd H' ρ' (e0.trans e) (s.less fun _ z => List.mem_cons_of_mem _ z) ⟨C, x1, x2, d, vs, x3, x4, x5, fun z => x6 (List.mem_cons_of_mem _ z), Paired.mono (fun _ _ h => ⟨h.1, h.2.less fun _ z => List.mem_cons_of_mem _ z⟩) x7⟩
  | bad => rw [hd] at g; exact g
  | ok kvs S1 =>
    rw [hd] at g
    intro vs H2 ρ2 e2 s2 r2
    have h2p : H2 p = some (.dK []) := e2.keep p _ (fun z => by obtain ⟨u, hu, _⟩ := hs.there z; rw [hp] at hu; cases hu) upd_same
    have ni : ¬ Imm (.dK []) := fun z => z
    simp only [RP.bind] at g
    split at g
    · rename_i hl
      refine ⟨h2p, vs, rfl, by rw [Paired.length r2]; exact hl, ?_⟩
      exact h kvs S1 vs H2 ρ2 p hp (e0.trans e2) h2p (s2.dodge h2p ni) (RepKd.merge (r2.dodge h2p ni) .nil) np.2 (s2.out p List.mem_cons_self).2 g
    · exact g.elim
theorem le_disp {pos : Pos} {keys : List (Option Expr)} {values : List Expr} {ds : List (DE × DE)} (h : LPs X W pos keys values ds) (hall : keys.all (·.isSome) = true) (hl : keys.length = values.length) (h0 : keys ≠ []) (h15 : keys.length ≤ 15) : LE X W (.Dict keys values pos) (dDisp ds) :=
  (pe_disp h hall hl h0 h15).imp fun σ H Q ⟨ρ, av, sl, S, hs, he, g⟩ => disp_core (f := fun kvs S1 => RE.ok (T.dic (mergeT [] kvs)) S1) hs he g fun kvs S1 vs H2 ρ2 p hp e h2 s r na nr g =>
    g (.ref p) _ ρ2 (Ext.over hp e h2) (s.less fun _ z => List.mem_cons_of_mem _ z) (RepV.dic (.inl upd_same) nr na (r.less fun _ z => List.mem_cons_of_mem _ z).ks)
theorem push_len {ρ : List Addr} {S : Sto} {p : Addr} (h : ρ.length = S.length) : (ρ ++ [p])[S.length]? = some p := by
  rw [← h, List.getElem?_append_right (Nat.le_refl _)]; simp
theorem RepKd.push {κ : Type} {K : PySem.W.Frag} {w : World} {H : Hp} {ρ av : List Addr} {p : Addr} {vs : List (κ × V)} {ts : List (κ × T)} (r : RepKd K w H ρ (p :: av) vs ts) : RepKd K w H (ρ ++ [p]) av vs ts := Paired.mono (fun _ _ h => ⟨h.1, h.2.push⟩) r
theorem Ext.pushed {H H2 : Hp} {ρ ρ2 : List Addr} {p : Addr} (hp : H p = none) (e : Ext H ρ H2 ρ2) : Ext H ρ H2 (ρ2 ++ [p]) :=
  ⟨by obtain ⟨n, q⟩ := e.pre; exact ⟨n ++ [p], by rw [q, List.append_assoc]⟩, fun b hb => by
    rcases List.mem_append.mp hb with q | q
    · exact e.new b q
    · rw [List.mem_singleton.mp q]; exact .inr hp, e.keep, e.imm, e.dom⟩
theorem le_dispM {pos : Pos} {keys : List (Option Expr)} {values : List Expr} {ds : List (DE × DE)} (h : LPs X W pos keys values ds) (hall : keys.all (·.isSome) = true) (hl : keys.length = values.length) (h0 : keys ≠ []) (h15 : keys.length ≤ 15) : LE X W (.Dict keys values pos) (dDispM ds) :=
  (pe_disp h hall hl h0 h15).imp fun σ H Q ⟨ρ, av, sl, S, hs, he, g⟩ => disp_core (f := fun kvs S1 => RE.ok (T.ref S1.length) (S1 ++ [MO.dK (mergeT [] kvs)])) hs he g fun kvs S1 vs H2 ρ2 p hp e h2 s r na nr g =>
    g (.ref p) _ (ρ2 ++ [p]) ((Ext.over hp e h2).pushed hp) (RepS.push s na ⟨_, upd_same, r.push⟩) (RepV.ref (push_len s.len))
def dNewK : DE := fun _ S => .ok (.ref S.length) (S ++ [.dK []])
def dNewT : DE := fun _ S => .ok (.ref S.length) (S ++ [.dT []])
theorem le_newK {pos : Pos} : LE X W (.Dict [] [] pos) dNewK := pe_dnewK.imp fun σ H Q ⟨ρ, av, sl, S, hs, he, g⟩ p hp =>
  g (.ref p) _ (ρ ++ [p]) ((Ext.laid hs hp _).pushed hp) (RepS.push (hs.laidN hp _) (notin_new hs hp).2 ⟨[], upd_same, .nil⟩) (RepV.ref (push_len hs.len))
theorem le_newT {pos : Pos} : LE X W (.Dict [] [] pos) dNewT := pe_dnewT.imp fun σ H Q ⟨ρ, av, sl, S, hs, he, g⟩ p hp =>
  g (.ref p) _ (ρ ++ [p]) ((Ext.laid hs hp _).pushed hp) (RepS.push (hs.laidN hp _) (notin_new hs hp).2 ⟨[], upd_same, .nil⟩) (RepV.ref (push_len hs.len))

/-! ### d.get(k, x) -/
def IsDL (K : PySem.W.Frag) (w : World) (H : Hp) (a : Addr) : Prop := IsD H a ∨ ∃ es n, KDict K w a es n
theorem isDL_at {pins : List (Addr × Obj)} {σ : L2.St} {H : Hp} {s : Shared} {a : Addr} (I : Inv X pins σ H s) (d : IsDL X.K X.w H a) : s.TypeIs (.ref a) "dict" ∧ (∀ b, Value.ref a = .ref b → ∃ ob, s.heap.get? b = some ob ∧ ob.dict = none) := by
  rcases d with d | ⟨es, n, D⟩
  · obtain ⟨t1, t2, _⟩ := isD_at I d
    exact ⟨t1, t2⟩
  · exact ⟨kd_type D I, fun b e => by cases e; exact ⟨_, I.kIn _ _ D.at_, rfl⟩⟩
theorem l_get2 {pins : List (Addr × Obj)} {σ : L2.St} {H : Hp} {s : Shared} {a : Addr} {y d : V} {o : Option V} {u r : Value} {A : Around} {E : Value → Shared → Prop} {Q : Value → Shared → Prop} (hu : A.units + 1 < cLine) (I : Inv X pins σ H s) (g : DLook X.K X.w H a y o) (ry : RelV y u) (rd : RelV d r)
    (h : ∀ w' s', Inv X pins σ H s' → RelV (o.getD d) w' → Q w' s') : wpAny (model X.prog X.w) A (call (.builtin "dict.get") [.ref a, u, r]) Q E s := by
  cases g with
  | got g => exact d_get2 hu I g ry rd h
  | kd D e h1 r1 =>
    subst e
    obtain ⟨t, rfl⟩ := ry
    have mo := PySem.W.mapOf_K (prog := X.prog) I.kIn D.at_ D.lit
    refine call_meetsIn PySem.F.slot_dict_get mo.typeIs PySem.F.entry_dict_get (PySem.F.args_dict_get_3 _ _ _) (meets_dict_get_default (PySem.strKind X.prog X.w) a (PySem.strKind_is X.prog X.w _ t) D.low r) ⟨_, mo, h _ _ (I.tok _) ?_⟩
    simp only [PySem.W.find_K D.at_ h1]
    exact r1
  | kn D e h1 =>
    subst e
    obtain ⟨t, rfl⟩ := ry
    have mo := PySem.W.mapOf_K (prog := X.prog) I.kIn D.at_ D.lit
    refine call_meetsIn PySem.F.slot_dict_get mo.typeIs PySem.F.entry_dict_get (PySem.F.args_dict_get_3 _ _ _) (meets_dict_get_default (PySem.strKind X.prog X.w) a (PySem.strKind_is X.prog X.w _ t) D.low r) ⟨_, mo, h _ _ (I.tok _) ?_⟩
    simp only [PySem.W.find_K D.at_ h1]
    exact rd
def tLGet2 (K : PySem.W.Frag) (w : World) (td ty tx : TE) : TE := fun σ H Q => td σ H fun x H1 => ∃ a, x = .ref a ∧ IsDL K w H1 a ∧ ty σ H1 fun y H2 => tx σ H2 fun z H3 => ∃ o, DLook K w H3 a y o ∧ Q (o.getD z) H3
theorem pe_lget2 {o e f : Expr} {apos cpos : Pos} {td ty tx : TE} (hu : X.A.units + 1 < cLine) (ho : PE X o td) (he : PE X e ty) (hf : PE X f tx) (m : M2 X o "get" apos e f cpos) : PE X (.Call (.Attribute o "get" apos) [e, f] [] cpos) (tLGet2 X.K X.w td ty tx) := by
  refine ⟨fun pins s σ H Q I h => ?_⟩
  refine wpAny_Call_method m.base m.few m.line PySem.F.plainAttrs_dict PySem.F.slot_dict_get PySem.F.type_dict_get (thn (ho.run pins s σ H _ I h) fun u s1 ⟨x, H1, I1, rx, a, ex, d, q1⟩ => ?_)
  subst ex
  obtain rfl : u = Value.ref a := rx
  obtain ⟨t1, t2⟩ := isDL_at I1 d
  refine ⟨t1, t2, ?_⟩
  rw [m.trees]
  refine Calls.callWith_builtin rfl (Calls.evalArgs_plain (Calls.spliced_cons (thn (he.run pins s1 σ H1 _ I1 q1) fun iv s2 ⟨y, H2, I2, ry, q2⟩ =>
    Calls.spliced_cons (thn (hf.run pins s2 σ H2 _ I2 q2) fun fv s3 ⟨z, H3, I3, rz, ov, g, q3⟩ => Calls.spliced_nil ?_))))
  exact l_get2 hu I3 g ry rz fun w' s4 I4 rw' => ⟨_, H3, I4, rw', q3⟩
def isDT (S : Sto) : T → Bool
  | .dic _ => true
  | .ref i => match S[i]? with
    | some (.dK _) => true
    | some (.dT _) => true
    | _ => false
  | _ => false
theorem isDT_rep {K : PySem.W.Frag} {w : World} {H : Hp} {ρ av : List Addr} {S : Sto} {v : V} {t : T} (hs : RepS K w H ρ av S) (r : RepV K w H ρ av v t) (h : isDT S t = true) : ∃ a, v = .ref a ∧ IsDL K w H a := by
  cases r with
  | dic h' _ _ _ => exact ⟨_, rfl, .inl (.inl ⟨_, h'⟩)⟩
  | dicK h' _ _ => obtain ⟨es, n, D, _⟩ := h'; exact ⟨_, rfl, .inr ⟨es, n, D⟩⟩
  | @ref a i ha =>
    obtain ⟨o, ho, ro⟩ := hs.of_ref ha
    simp only [isDT, ho] at h
    cases o with
    | dK ts => obtain ⟨vs, h1, _⟩ := ro; exact ⟨_, rfl, .inl (.inl ⟨_, .inl h1⟩)⟩
    | dT ts => obtain ⟨vs, h1, _⟩ := ro; exact ⟨_, rfl, .inl (.inr ⟨_, .inl h1⟩)⟩
    | _ => cases h
  | _ => cases h
/-- o.get(e, f) -/
def dGet2 (d de df : DE) : DE := fun sl S => (d sl S).bind fun x S1 => if isDT S1 (fz x) then (de sl S1).bind fun k S2 => (df sl S2).bind fun z S3 => match dget S3 (fz x) (fz k) with
  | some (some t) => .ok t S3
  | some none => .ok (fz z) S3
  | none => .bad else .bad
theorem le_get2 {o e f : Expr} {apos cpos : Pos} {d de df : DE} (hu : X.A.units + 65 < cLine) (ho : LE X W o d) (he : LE X W e de) (hf : LE X W f df) (m : M2 X o "get" apos e f cpos) : LE X W (.Call (.Attribute o "get" apos) [e, f] [] cpos) (dGet2 d de df) :=
  (pe_lget2 (hu1 hu) ho he hf m).imp fun σ H Q ⟨ρ, av, sl, S, hs, hE, g⟩ => ⟨ρ, av, sl, S, hs, hE, GoodE.step g fun t S1 _ v H1 ρ1 e1 s1 r1 g1 => by
    split at g1
    · rename_i hD
      obtain ⟨a, rfl, hd⟩ := isDT_rep s1 r1.toV hD
      refine ⟨a, rfl, hd, ρ1, av, sl, S1, s1, hE.ext e1, GoodE.step g1 fun k S2 _ vk H2 ρ2 e2 s2 r2 g2 => ⟨ρ2, av, sl, S2, s2, (hE.ext e1).ext e2, GoodE.step g2 fun z S3 _ vz H3 ρ3 e3 s3 r3 g3 => ?_⟩⟩
      cases hg : dget S3 (fz t) (fz k) with
      | none => simp only [hg] at g3; exact g3.elim
      | some oo =>
        obtain ⟨a', ov, ea, gl, k1, k2⟩ := dget_rep s3 ((r1.toV.ext e2).ext e3) (r2.toV.ext e3) hg
        cases ea
        cases oo with
        | none =>
          simp only [hg] at g3
          rw [k2 rfl] at gl
          exact ⟨none, gl, g3.now s3 r3.toV⟩
        | some t' =>
          simp only [hg] at g3
          obtain ⟨v', q1, q2⟩ := k1 t' rfl
          rw [q1] at gl
          exact ⟨some v', gl, g3.now s3 q2⟩
    · exact g1.elim⟩

/-! ### calls with keywords -/
def permL {α : Type} (perm : List Nat) (xs : List α) : List α := perm.filterMap fun i => xs[i]?
theorem permL_rel {R : V → Value → Prop} {xs : List V} {us : List Value} (r : Paired R xs us) : ∀ perm : List Nat, Paired R (permL perm xs) (permL perm us)
  | [] => .nil
  | i :: p => by
    have ih := permL_rel r p
    have at_ : ∀ {xs : List V} {us : List Value}, Paired R xs us → ∀ i : Nat, (xs[i]? = none ∧ us[i]? = none) ∨ ∃ x u, xs[i]? = some x ∧ us[i]? = some u ∧ R x u := by
      intro xs us r
      induction r with
      | nil => intro i; exact .inl ⟨by simp, by simp⟩
      | cons h t ih =>
        intro i
        cases i with
        | zero => exact .inr ⟨_, _, rfl, rfl, h⟩
        | succ i => simpa using ih i
    unfold permL
    rw [List.filterMap_cons, List.filterMap_cons]
    rcases at_ r i with ⟨h1, h2⟩ | ⟨x, u, h1, h2, h3⟩
    · rw [h1, h2]; exact ih
    · rw [h1, h2]; exact .cons h3 ih
theorem permL_vs {K : PySem.W.Frag} {w : World} {H : Hp} {ρ av : List Addr} {xs : List V} {us : List T} (r : RepVs K w H ρ av xs us) : ∀ perm : List Nat, RepVs K w H ρ av (permL perm xs) (permL perm us)
  | [] => .nil
  | i :: p => by
    have ih := permL_vs r p
    unfold permL
    rw [List.filterMap_cons, List.filterMap_cons]
    cases h : us[i]? with
    | none =>
      have : xs[i]? = none := by
        rw [List.getElem?_eq_none_iff] at h ⊢
        rw [r.length]; exact h
      rw [this]; exact ih
    | some t =>
      obtain ⟨v, h1, h2⟩ := r.get h
      rw [h1]; exact .cons h2 ih
theorem kbn_of {K : PySem.W.Frag} {x qual : Str} {params : Arguments} {body : List Stmt} {scope : Scope} {kws : List (Str × V)} {f : Addr} {fd : FuncData} {ps ks : List Str} {n : Nat} {perm : List Nat} (F : FunD K x qual params body scope [] kws f fd)
    (h : ∀ (kV doc pm : Value) (an : Option Addr) (cdv ct : Value) (us ws : List Value), us.length = n → ws.length = ks.length → bindArgs (PySem.W.fnOf x qual params body scope .none kV doc pm an cdv ct) ⟨us, ks.zip ws⟩ = pure (ps.zip (permL perm (us ++ ws)))) :
    KBn K fd ps n ks (fun us ws => permL perm (us ++ ws)) (fun us ws => permL perm (us ++ ws)) := by
  obtain ⟨oc, od, dV, kV, doc, pm, an, cdv, ct, osl, rfl, lk, hcd, hD, hK⟩ := F.ex
  rcases hD with ⟨_, rfl⟩ | ⟨e, _⟩
  · exact ⟨fun s us ws _ l1 l2 => .of_eq (h kV doc pm an cdv ct us ws l1 l2), fun r1 r2 => permL_rel (Vals.append r1 r2) perm⟩
  · exact absurd rfl e
theorem run_fnNS {CX : CXT} {k n : Nat} {f : Addr} {fd : FuncData} {ps ks : List Str} {sp : Sp} {E : L2.St → XK} {pins : List (Addr × Obj)} {σ : L2.St} {H : Hp} {s : Shared} {Q : VK} {us ws : List Value} {vs zs : List V} {g : List Value → List Value → List Value} {gV : List V → List V → List V} (F : FnOk X.prog X.w X.K X.mg X.base CX k f fd ps sp) (hr : Room k X.A) (hb : KBn X.K fd ps n ks g gV) (hx : PassesAt CX X σ (E σ))
    (I : Inv X pins σ H s) (r : Vals vs us) (rz : Vals zs ws) (l1 : vs.length = n) (l2 : zs.length = ks.length) (h : sp (gV vs zs) H Q (E σ)) : wpAny (model X.prog X.w) X.A (call (.ref f) us (ks.zip ws)) (EP X pins σ Q) X.xe s := by
  have r2 := hb.rel r rz
  refine wpAny_call (codeAny_mono (F.run X.A X.stack s H ⟨us, ks.zip ws⟩ (g us ws) (gV vs zs) Q (E σ) hr I.env0 (hb.to s us ws I.kIn (r.length.symm.trans l1) (rz.length.symm.trans l2)) r2 h) fun r s' hq => ?_)
  cases r with
  | error e => exact hx pins H s e s' I hq
  | ok fl =>
    cases fl with
    | ret u => exact I.after hq
    | next => exact False.elim hq
    | brk => exact False.elim hq
    | cont => exact False.elim hq
def tCallKS (n m : Nat) (sp : Sp) (gV : List V → List V → List V) (E : L2.St → XK) (t tk : TA) : TE := fun σ H Q => t σ H fun vs H1 => tk σ H1 fun zs H2 => vs.length = n ∧ zs.length = m ∧ sp (gV vs zs) H2 Q (E σ)
theorem pe_callKS {CX : CXT} {k n : Nat} {f : Addr} {fd : FuncData} {ps ks : List Str} {sp : Sp} {E : L2.St → XK} {x : Str} {p pos : Pos} {e : Expr} {es : List Expr} {kws : List Keyword} {t tk : TA} {g : List Value → List Value → List Value} {gV : List V → List V → List V}
    (F : FnOk X.prog X.w X.K X.mg X.base CX k f fd ps sp) (hr : Room k X.A) (hg : Gl X x) (hm : X.mg x = some (.ref f)) (hk : PySem.W.keepIn X.K (.ref f) = true) (hb : KBn X.K fd ps n ks g gV) (hx : ∀ σ, PassesAt CX X σ (E σ))
    (ha : PA X (e :: es) t) (hkw : PK X kws tk) (hall : (backToKw pos (keywordEach kws X.env)).all (·.1.isSome) = true := by rfl) (hks : (backToKw pos (keywordEach kws X.env)).filterMap (·.1) = ks := by rfl)
    (hdb : (x == ("__debug__" : Str)) = false := by decide) (he : starEach (e :: es) X.env = (false, eval e X.env) :: starEach es X.env := by rfl)
    (hpl : ((backTo pos (starEach (e :: es) X.env)).any (·.1) || (backToKw pos (keywordEach kws X.env)).any (·.1.isNone)) = false := by rfl) :
    PE X (.Call (.Name x p) (e :: es) kws pos) (tCallKS n ks.length sp gV E t tk) := by
  refine ⟨fun pins s σ H Q I h => ?_⟩
  refine wpAny_Call_Name_kw (ld_glob I hg hm ?_ hdb)
  refine PySem.W.callWith_KW (h₀ := X.base) I.ok.mod.kin hk hall (thn (ha.run pos pins s σ H _ I h) fun us s1 ⟨vs, H1, I1, r, q⟩ => ?_) hpl he
  refine thn (hkw.run pos pins s1 σ H1 _ I1 q) fun ws s2 ⟨zs, H2, I2, rz, l1, l2, q2⟩ => ⟨I2.kIn, ?_⟩
  rw [hks]
  exact run_fnNS F hr hb (hx σ) I2 r rz l1 l2 q2
theorem pe_callKS0 {CX : CXT} {k : Nat} {f : Addr} {fd : FuncData} {ps ks : List Str} {sp : Sp} {E : L2.St → XK} {x : Str} {p pos : Pos} {kws : List Keyword} {tk : TA} {g : List Value → List Value → List Value} {gV : List V → List V → List V}
    (F : FnOk X.prog X.w X.K X.mg X.base CX k f fd ps sp) (hr : Room k X.A) (hg : Gl X x) (hm : X.mg x = some (.ref f)) (hk : PySem.W.keepIn X.K (.ref f) = true) (hb : KBn X.K fd ps 0 ks g gV) (hx : ∀ σ, PassesAt CX X σ (E σ))
    (hkw : PK X kws tk) (hall : (backToKw pos (keywordEach kws X.env)).all (·.1.isSome) = true := by rfl) (hks : (backToKw pos (keywordEach kws X.env)).filterMap (·.1) = ks := by rfl)
    (hdb : (x == ("__debug__" : Str)) = false := by decide)
    (hpl : ((backTo pos (starEach [] X.env)).any (·.1) || (backToKw pos (keywordEach kws X.env)).any (·.1.isNone)) = false := by rfl) :
    PE X (.Call (.Name x p) [] kws pos) (tCallKS 0 ks.length sp gV E tNil tk) := by
  refine ⟨fun pins s σ H Q I h => ?_⟩
  refine wpAny_Call_Name_kw (ld_glob I hg hm ?_ hdb)
  refine PySem.W.callWith_KW0 (h₀ := X.base) I.ok.mod.kin hk hall ?_ hpl
  refine thn (hkw.run pos pins s σ H _ I h) fun ws s2 ⟨zs, H2, I2, rz, l1, l2, q2⟩ => ⟨I2.kIn, ?_⟩
  rw [hks]
  exact run_fnNS (us := []) (vs := []) F hr hb (hx σ) I2 .nil rz rfl l2 q2
/-- the keywords' values -/
abbrev LK (X : DX) (W : WX) (kws : List Keyword) (d : DA) : Prop := PK X kws (liftA X W d)
theorem _root_.L2.PK.imp {X : Cx} {e : List Keyword} {t t' : TA} (h : PK X e t) (f : ∀ σ H Q, t' σ H Q → t σ H Q) : PK X e t' := ⟨fun pos pins s σ H Q I q => h.run pos pins s σ H Q I (f σ H Q q)⟩
theorem lk_nil : LK X W [] dNil := pk_nil.imp fun σ H Q ⟨ρ, av, sl, S, hs, he, g⟩ => g [] H ρ (Ext.refl _ _) hs .nil
theorem lift_cons {d : DE} {r : DA} (σ : L2.St) (H : Hp) (Q : List V → Hp → Prop) : liftA X W (dCons d r) σ H Q → tCons (liftE X W d) (liftA X W r) σ H Q := fun ⟨ρ, av, sl, S, hs, he, g⟩ => ⟨ρ, av, sl, S, hs, he, by
    unfold dCons at g
    cases hd : d sl S with
    | ok t S1 =>
      rw [hd] at g
      intro v H1 ρ1 e1 s1 r1
      have s1 := s1.ofN
      refine ⟨ρ1, av, sl, S1, s1, he.ext e1, ?_⟩
      cases hr' : r sl S1 with
      | ok ts S2 =>
        simp only [hr'] at g
        exact fun vs H2 ρ2 e2 s2 r2 => g (v :: vs) H2 ρ2 (e1.trans e2) s2 (.cons (r1.toV.ext e2) r2)
      | exc c fs S2 => simp only [hr'] at g; exact fun cls dd H2 ρ2 e2 s2 r2 => g cls dd H2 ρ2 (e1.trans e2) s2 r2
      | bad => simp only [hr'] at g; exact g
    | exc c fs S1 => rw [hd] at g; exact g
    | bad => rw [hd] at g; exact g⟩
theorem lk_cons {nm : Option Str} {e : Expr} {kpos : Pos} {kws : List Keyword} {d : DE} {r : DA} (h : LE X W e d) (hr : LK X W kws r) : LK X W (⟨nm, e, kpos⟩ :: kws) (dCons d r) := (pk_cons h hr).imp fun σ H Q q => lift_cons σ H Q q
/-- f(e, .., k = v, ..) -/
def dOwnK (n m : Nat) (perm : List Nat) (np : Nat) (d : DF) (da dk : DA) : DE := fun sl S => (da sl S).bind fun ts S1 => (dk sl S1).bind fun us S2 => if ts.length = n ∧ us.length = m ∧ (permL perm (ts ++ us)).length = np then d (permL perm (ts ++ us)) S2 else .bad
theorem lift_ownK {k n m : Nat} {perm : List Nat} {np : Nat} {d : DF} {da dk : DA} (σ : L2.St) (H : Hp) (Q : VK) : liftE X W (dOwnK n m perm np d da dk) σ H Q → tCallKS n m (spD X.K X.w X.mg np d) (fun us ws => permL perm (us ++ ws)) (WE W) (liftA X W da) (liftA X W dk) σ H Q :=
  fun ⟨ρ, av, sl, S, hs, hE, g⟩ => ⟨ρ, av, sl, S, hs, hE, GoodA.step g fun ts S1 vs H1 ρ1 e1 s1 r1 g1 => ⟨ρ1, av, sl, S1, s1, hE.ext e1, GoodA.step g1 fun us S2 zs H2 ρ2 e2 s2 r2 g2 => by
    split at g2
    · rename_i hl
      obtain ⟨l1, l2, l3⟩ := hl
      have rr := permL_vs ((r1.ext e2).append r2) perm
      refine ⟨by rw [r1.length]; exact l1, by rw [r2.length]; exact l2, by rw [rr.length]; exact l3, ρ2, av, _, S2, s2, rr, ?_⟩
      cases h : d (permL perm (ts ++ us)) S2 with
      | ok t S2 => rw [h] at g2; exact g2
      | exc c fs S2 => rw [h] at g2; exact g2
      | bad => rw [h] at g2; exact g2
    · exact g2.elim⟩⟩
/-- an own def: what a caller needs of it -/
def Own (P : Program) (w : World) (K : PySem.W.Frag) (mg : Str → Option Value) (base : Heap) (k : Nat) (x : Str) (ps : List Str) (d : DF) : Prop := ∃ f fd, mg x = some (.ref f) ∧ PySem.W.keepIn K (.ref f) = true ∧ Binds K fd ps [] ∧ FnOk P w K mg base (L2N.CX P w) k f fd ps (spD K w mg ps.length d)
/-- .. with keywords ks behind n places -/
def OwnK (P : Program) (w : World) (K : PySem.W.Frag) (mg : Str → Option Value) (base : Heap) (k : Nat) (x : Str) (ps : List Str) (d : DF) (n : Nat) (ks : List Str) (perm : List Nat) : Prop := ∃ f fd, mg x = some (.ref f) ∧ PySem.W.keepIn K (.ref f) = true ∧ KBn K fd ps n ks (fun us ws => permL perm (us ++ ws)) (fun us ws => permL perm (us ++ ws)) ∧ FnOk P w K mg base (L2N.CX P w) k f fd ps (spD K w mg ps.length d)
theorem le_call {k np : Nat} {ps : List Str} {d : DF} {x : Str} {p pos : Pos} {e : Expr} {es : List Expr} {da : DA} (F : Own X.prog X.w X.K X.mg X.base k x ps d) (hr : Room k X.A) (hg : Gl X x) (tk : L2N.Takes X W) (ha : LA X W (e :: es) da) (hdb : (x == ("__debug__" : Str)) = false := by decide) (he : starEach (e :: es) X.env = (false, eval e X.env) :: starEach es X.env := by rfl)
    (hpl : (backTo pos (starEach es X.env)).any (·.1) = false := by rfl) (hn : ps.length = np := by rfl) : LE X W (.Call (.Name x p) (e :: es) [] pos) (dOwn np d da) := by
  obtain ⟨f, fd, h1, h2, h3, h4⟩ := F
  subst hn
  exact le_own h4 hr hg h1 h2 h3 tk ha hdb he hpl
theorem le_callK {k n m np : Nat} {perm : List Nat} {ps ks : List Str} {d : DF} {x : Str} {p pos : Pos} {e : Expr} {es : List Expr} {kws : List Keyword} {da dk : DA} (F : OwnK X.prog X.w X.K X.mg X.base k x ps d n ks perm) (hr : Room k X.A) (hg : Gl X x) (tk : L2N.Takes X W) (ha : LA X W (e :: es) da) (hk : LK X W kws dk) (hm : ks.length = m := by rfl)
    (hall : (backToKw pos (keywordEach kws X.env)).all (·.1.isSome) = true := by rfl) (hks : (backToKw pos (keywordEach kws X.env)).filterMap (·.1) = ks := by rfl)
    (hdb : (x == ("__debug__" : Str)) = false := by decide) (he : starEach (e :: es) X.env = (false, eval e X.env) :: starEach es X.env := by rfl)
    (hpl : ((backTo pos (starEach (e :: es) X.env)).any (·.1) || (backToKw pos (keywordEach kws X.env)).any (·.1.isNone)) = false := by rfl) (hn : ps.length = np := by rfl) : LE X W (.Call (.Name x p) (e :: es) kws pos) (dOwnK n m perm np d da dk) := by
  obtain ⟨f, fd, h1, h2, h3, h4⟩ := F
  subst hm hn
  exact (pe_callKS h4 hr hg h1 h2 h3 (fun σ => L2N.passAt tk σ) ha hk hall hks hdb he hpl).imp fun σ H Q q => lift_ownK (k := k) σ H Q q
theorem le_callK0 {k m np : Nat} {perm : List Nat} {ps ks : List Str} {d : DF} {x : Str} {p pos : Pos} {kws : List Keyword} {dk : DA} (F : OwnK X.prog X.w X.K X.mg X.base k x ps d 0 ks perm) (hr : Room k X.A) (hg : Gl X x) (tk : L2N.Takes X W) (hk : LK X W kws dk) (hm : ks.length = m := by rfl)
    (hall : (backToKw pos (keywordEach kws X.env)).all (·.1.isSome) = true := by rfl) (hks : (backToKw pos (keywordEach kws X.env)).filterMap (·.1) = ks := by rfl)
    (hdb : (x == ("__debug__" : Str)) = false := by decide)
    (hpl : ((backTo pos (starEach [] X.env)).any (·.1) || (backToKw pos (keywordEach kws X.env)).any (·.1.isNone)) = false := by rfl) (hn : ps.length = np := by rfl) : LE X W (.Call (.Name x p) [] kws pos) (dOwnK 0 m perm np d dNil dk) := by
  obtain ⟨f, fd, h1, h2, h3, h4⟩ := F
  subst hm hn
  refine (pe_callKS0 h4 hr hg h1 h2 h3 (fun σ => L2N.passAt tk σ) hk hall hks hdb hpl).imp fun σ H Q q => ?_
  obtain ⟨ρ, av, sl, S, hs, hE, g⟩ := q
  have := lift_ownK (k := k) σ H Q ⟨ρ, av, sl, S, hs, hE, g⟩
  obtain ⟨ρ', av', sl', S', hs', hE', g'⟩ := this
  exact g' [] H ρ' (Ext.refl _ _) hs' .nil
end
/-- THE RULE of a def, over the facts by names -/
theorem fn_okD {P : Program} {w : World} {K : PySem.W.Frag} {mg : Str → Option Value} {base : Heap} {x qual : Str} {params : Arguments} {body : List Stmt} {scope : Scope} {kws : List (Str × V)} {f : Addr} {fd : FuncData} {N ps : List Str} {k : Nat} {ds : DS} (F : FunD K x qual params body scope [] kws f fd) (S : FnScope N ps scope)
    (hb : ∀ (cdv : Value) (A : Around) (outer : List Env) (s : Shared) (H : Hp) (E : XK), Room k (A.deeper (PyProof.Rows.envOfC qual scope s.heap.objs.size f cdv)) →
      LSs ⟨cxOf (L2N.CX P w) P w K mg base N qual scope f cdv A outer s H E, none⟩ (WF E) body ds) : FnOk P w K mg base (L2N.CX P w) (k + 1) f fd ps (spD K w mg ps.length (dFun ps.length N.length ds)) := by
  refine F.ok S (fun vs H Q E h => h.1) (fun cdv A outer s H vs Q E hr h => ⟨_, hb cdv A outer s H E hr, ?_⟩)
  obtain ⟨hl, ρ, av, ts, St, hs, rv, g⟩ := h
  have hlt : ts.length = ps.length := by rw [← rv.length]; exact hl
  refine ⟨ρ, av, _, St, hs, start_rep (N := N) rv, ?_⟩
  unfold dFun at g
  rw [if_pos hlt] at g
  rw [hlt]
  generalize ds (ts.map some ++ List.replicate (N.length - ps.length) none) St = res at g
  cases res with
  | nx sl S' => exact fun σ' H' ρ' e s' _ _ => good_gcT hs g e s' .non
  | rt t S' => exact fun v H' ρ' e s' r => good_gcT hs g e s' r
  | exc c fs sl S' => exact fun cls dd σ' H' ρ' e s' _ _ rx => good_gcX hs g e s' rx
  | bk sl S' => exact g.elim
  | ct sl S' => exact g.elim
  | bad => exact g.elim
end Dn

namespace Dn
open PySem PySem.Spec L2
section
variable {X : DX} {W : WX} {pos : Pos}
theorem le_i {i : Int} {j : Nat} : LE X W (.Constant (.int i) j pos) (dC (.int i)) := le_c pe_int fun _ _ _ => .int _
theorem le_s {x : Str} {j : Nat} : LE X W (.Constant (.str x) j pos) (dC (.str x)) := le_c pe_str fun _ _ _ => .str _
theorem le_b {b : Bool} {j : Nat} : LE X W (.Constant (.bool b) j pos) (dC (.bl b)) := le_c pe_bl fun _ _ _ => .bl _
theorem le_n {j : Nat} : LE X W (.Constant .none j pos) (dC .non) := le_c pe_non fun _ _ _ => .non
/-- a constant of the program's top -/
def GC (K : PySem.W.Frag) (w : World) (mg : Str → Option Value) (x : Str) (t : T) : Prop := ∃ u v, mg x = some u ∧ RelV v u ∧ ∀ H ρ av, RepV K w H ρ av v t
theorem le_g {x : Str} {t : T} (hg : Gl X x) (h : GC X.K X.w X.mg x t) (hd : (x == ("__debug__" : Str)) = false := by decide) : LE X W (.Name x pos) (dC t) := by
  obtain ⟨u, v, h1, h2, h3⟩ := h
  exact le_c (pe_glob hg h1 h2 hd) h3
theorem hu65 {k : Nat} {A : Around} (r : Room k A) : A.units + 65 < cLine := by have := r.un; omega
end

/-! ### constants of the top, looked at in the written part -/
mutual
def chk (K : PySem.W.Frag) : T → Value → Bool
  | .non, .none => true
  | .bl b, .bool c => b == c
  | .int i, .int j _ => decide (i = j)
  | .str x, .str y _ => decide (x = y)
  | .ktup ts, .ref a => (match K.lookup a with
    | some ⟨.type c, _, .seq its _, _⟩ => decide (c = "tuple") && (decide (its.size ≤ sizeLine) && chks K ts its.toList)
    | _ => false)
  | _, _ => false
def chks (K : PySem.W.Frag) : List T → List Value → Bool
  | [], [] => true
  | t :: ts, u :: us => chk K t u && chks K ts us
  | _, _ => false
end
mutual
theorem chk_ok {K : PySem.W.Frag} {w : World} : ∀ {t : T} {u : Value}, chk K t u = true → ∃ v, RelV v u ∧ ∀ H ρ av, RepV K w H ρ av v t
  | .non, u, h => by
    cases u with
    | none => exact ⟨.non, rfl, fun _ _ _ => .non⟩
    | _ => simp [chk] at h
  | .bl b, u, h => by
    cases u with
    | bool c =>
      rw [chk] at h
      have e : b = c := by simpa using h
      subst e
      exact ⟨.bl b, rfl, fun _ _ _ => .bl b⟩
    | _ => simp [chk] at h
  | .int i, u, h => by
    cases u with
    | int j t =>
      rw [chk] at h
      have e := of_decide_eq_true h
      subst e
      exact ⟨.int i, ⟨_, rfl⟩, fun _ _ _ => .int i⟩
    | _ => simp [chk] at h
  | .str x, u, h => by
    cases u with
    | str j t =>
      rw [chk] at h
      have e := of_decide_eq_true h
      subst e
      exact ⟨.str x, ⟨_, rfl⟩, fun _ _ _ => .str x⟩
    | _ => simp [chk] at h
  | .ktup ts, u, h => by
    cases u with
    | ref a =>
      rw [chk] at h
      cases hl : K.lookup a with
      | none => rw [hl] at h; cases h
      | some o =>
        rw [hl] at h
        obtain ⟨oc, od, dt, sl⟩ := o
        cases oc with
        | type c =>
          cases dt with
          | seq its n =>
            simp only [Bool.and_eq_true] at h
            obtain ⟨h1, h2, h3⟩ := h
            obtain ⟨vs, r1, r2⟩ := chks_ok (w := w) h3
            have e := of_decide_eq_true h1
            subst e
            exact ⟨.ref a, rfl, fun H ρ av => .tupK ⟨_, its, n, hl, rfl, rfl, of_decide_eq_true h2, r1⟩ (r2 H ρ av)⟩
          | _ => cases h
        | _ => cases h
    | _ => simp [chk] at h
  | .tup ts, u, h => by simp [chk] at h
  | .lst ts, u, h => by simp [chk] at h
  | .nlst ts, u, h => by simp [chk] at h
  | .flst ts, u, h => by simp [chk] at h
  | .ref i, u, h => by simp [chk] at h
  | .dic i, u, h => by simp [chk] at h
theorem chks_ok {K : PySem.W.Frag} {w : World} : ∀ {ts : List T} {us : List Value}, chks K ts us = true → ∃ vs, Vals vs us ∧ ∀ H ρ av, RepVs K w H ρ av vs ts
  | [], us, h => by
    cases us with
    | nil => exact ⟨[], .nil, fun _ _ _ => .nil⟩
    | cons u us => simp [chks] at h
  | t :: ts, us, h => by
    cases us with
    | nil => simp [chks] at h
    | cons u us =>
      rw [chks, Bool.and_eq_true] at h
      obtain ⟨v, r1, r2⟩ := chk_ok (w := w) h.1
      obtain ⟨vs, q1, q2⟩ := chks_ok (w := w) h.2
      exact ⟨v :: vs, .cons r1 q1, fun H ρ av => .cons (r2 H ρ av) (q2 H ρ av)⟩
end
/-- a plain constant by name -/
def chkG (K : PySem.W.Frag) (x : Str) (t : T) : Bool := match PySem.W.nsIn K mainGlobals x with
  | some (some u) => chk K t u
  | _ => false
theorem chkG_ok {K : PySem.W.Frag} {w : World} {h : Heap} {mg : Str → Option Value} (X : K.In h) (G : h.Ns mainGlobals mg) {x : Str} {t : T} (c : chkG K x t = true) : GC K w mg x t := by
  unfold chkG at c
  split at c
  · rename_i u hu
    obtain ⟨v, r1, r2⟩ := chk_ok (w := w) c
    exact ⟨u, v, PySem.W.mg_of X G hu, r1, r2⟩
  · cases c
/-- a table by name: its entries -/
def chkE (K : PySem.W.Frag) : List (Str × T) → List DictEntry → Bool
  | [], [] => true
  | (x, t) :: kvs, e :: es => (match e.key with
    | .str y _ => decide (x = y)
    | _ => false) && (chk K t e.val && (!e.refKey && chkE K kvs es))
  | _, _ => false
def chkD (K : PySem.W.Frag) (x : Str) (kvs : List (Str × T)) : Bool := (match PySem.W.nsIn K mainGlobals x with
  | some (some (.ref a)) => (match K.lookup a with
    | some ⟨_, _, .dict es _, _⟩ => chkE K kvs es.toList
    | _ => false)
  | _ => false) && decide (kvs.map (·.1)).Nodup
theorem chkE_ok {K : PySem.W.Frag} {w : World} {a : Addr} : ∀ {kvs : List (Str × T)} {es : List DictEntry}, chkE K kvs es = true → (kvs.map (·.1)).Nodup → ∃ vals : List (Key × V), (∀ p ∈ vals, ∃ z, p.1 = Sum.inr z) ∧ (∀ H ρ av, RepKs K w H ρ av vals (kvs.map fun p => (Sum.inr p.1, p.2))) ∧
    (es.any (·.refKey)) = false ∧ ∀ z : Str, (∃ v e, valV vals (.inr z) = some v ∧ es.find? (·.key.isStr z) = some e ∧ RelV v e.val) ∨ (valV vals (.inr z) = none ∧ es.find? (·.key.isStr z) = none)
  | [], [], _, _ => ⟨[], fun p (hp : p ∈ ([] : List (Key × V))) => absurd hp (by simp), fun _ _ _ => RepKs.nil, rfl, fun z => .inr ⟨rfl, rfl⟩⟩
  | [], _ :: _, h, _ => by simp [chkE] at h
  | _ :: _, [], h, _ => by simp [chkE] at h
  | (x, t) :: kvs, e :: es, h, nd => by
    rw [chkE, Bool.and_eq_true, Bool.and_eq_true, Bool.and_eq_true] at h
    obtain ⟨h1, h2, h3, h4⟩ := h
    rw [List.map_cons, List.nodup_cons] at nd
    obtain ⟨vals, q1, q2, q3, q4⟩ := chkE_ok (w := w) (a := a) h4 nd.2
    obtain ⟨v, r1, r2⟩ := chk_ok (w := w) h2
    have hk : ∀ z : Str, e.key.isStr z = decide (x = z) := by
      intro z
      split at h1
      · rename_i y tk ey
        have e2 := of_decide_eq_true h1
        subst e2
        rw [ey]
        simp only [Value.isStr]
        by_cases c : x = z
        · subst c; simp
        · rw [decide_eq_false c]
          exact beq_eq_false_iff_ne.mpr c
      · cases h1
    refine ⟨(.inr x, v) :: vals, fun p hp => ?_, fun H ρ av => .cons (r2 H ρ av) (q2 H ρ av), by rw [List.any_cons, q3]; simpa using h3, fun z => ?_⟩
    · rcases List.mem_cons.mp hp with rfl | hp
      · exact ⟨x, rfl⟩
      · exact q1 p hp
    · by_cases c : x = z
      · subst c
        exact .inl ⟨v, e, valV_pos rfl, by rw [List.find?_cons, hk]; simp, r1⟩
      · have c' : ¬ (Sum.inr x : Key) = Sum.inr z := fun q => c (Sum.inr.inj q)
        have f : (e :: es).find? (·.key.isStr z) = es.find? (·.key.isStr z) := by
          rw [List.find?_cons]
          simp only [hk, decide_eq_false c]
        rw [f, valV_neg c']
        exact q4 z
theorem chkD_ok {K : PySem.W.Frag} {w : World} {h : Heap} {mg : Str → Option Value} (X : K.In h) (G : h.Ns mainGlobals mg) {x : Str} {kvs : List (Str × T)} {es : Array DictEntry} {n : Nat} (D : KDict K w (He.ga K x) es n) (c : chkD K x kvs = true) : GC K w mg x (.dic (kvs.map fun p => (Sum.inr p.1, p.2))) := by
  unfold chkD at c
  rw [Bool.and_eq_true] at c
  obtain ⟨c, nd⟩ := c
  have nd := of_decide_eq_true nd
  cases hn : PySem.W.nsIn K mainGlobals x with
  | none => rw [hn] at c; cases c
  | some o =>
    rw [hn] at c
    cases o with
    | none => cases c
    | some u =>
      cases u with
      | ref a =>
        have ea : He.ga K x = a := by unfold He.ga; rw [hn]
        rw [ea] at D
        simp only [D.at_] at c
        obtain ⟨vals, q1, q2, q3, q4⟩ := chkE_ok (w := w) (a := a) c nd
        refine ⟨.ref a, .ref a, PySem.W.mg_of X G hn, rfl, fun H ρ av => .dicK ⟨es, n, D, fun z => ?_⟩ q1 (q2 H ρ av)⟩
        rcases q4 z with ⟨v, e, h1, h2, h3⟩ | ⟨h1, h2⟩
        · exact .inl ⟨v, e.val, h1, by unfold PySem.W.nsIn; rw [D.at_]; simp only [h2], h3⟩
        · refine .inr ⟨h1, ?_⟩
          unfold PySem.W.nsIn
          rw [D.at_]
          simp only [h2, q3]
          rfl
      | _ => cases c
/-- .., with its object told -/
structure OwnAt (P : Program) (w : World) (K : PySem.W.Frag) (mg : Str → Option Value) (base : Heap) (k : Nat) (x : Str) (ps : List Str) (d : DF) (f : Addr) (fd : FuncData) : Prop where
  hm : mg x = some (.ref f)
  kp : PySem.W.keepIn K (.ref f) = true
  bi : Binds K fd ps []
  ok : FnOk P w K mg base (L2N.CX P w) k f fd ps (spD K w mg ps.length d)
theorem OwnAt.own {P : Program} {w : World} {K : PySem.W.Frag} {mg : Str → Option Value} {base : Heap} {k : Nat} {x : Str} {ps : List Str} {d : DF} {f : Addr} {fd : FuncData} (h : OwnAt P w K mg base k x ps d f fd) : Own P w K mg base k x ps d := ⟨f, fd, h.hm, h.kp, h.bi, h.ok⟩
theorem OwnAt.kw {P : Program} {w : World} {K : PySem.W.Frag} {mg : Str → Option Value} {base : Heap} {k n : Nat} {x : Str} {ps ks : List Str} {d : DF} {f : Addr} {fd : FuncData} {perm : List Nat} (h : OwnAt P w K mg base k x ps d f fd) (b : KBn K fd ps n ks (fun us ws => permL perm (us ++ ws)) (fun us ws => permL perm (us ++ ws))) : OwnK P w K mg base k x ps d n ks perm := ⟨f, fd, h.hm, h.kp, b, h.ok⟩
/-- a def of the top, from the head's facts -/
theorem own_of {P : Program} {w : World} {K : PySem.W.Frag} {mg : Str → Option Value} {base : Heap} {x : Str} {d : He.DefD} {f : Addr} {fd : FuncData} {N ps : List Str} {k np n : Nat} {ds : DS} (F : FunD K d.name d.qual d.params d.body d.scope [] [] f fd) (hm : mg x = some (.ref f)) (S : FnScope N ps d.scope)
    (hbi : ∀ (kV doc pm : Value) (an : Option Addr) (cdv ct : Value) (us : List Value), us.length = ps.length → bindArgs (PySem.W.fnOf d.name d.qual d.params d.body d.scope .none kV doc pm an cdv ct) ⟨us, []⟩ = pure (ps.zip us))
    (hb : ∀ (cdv : Value) (A : Around) (outer : List Env) (s : Shared) (H : Hp) (E : XK), Room k (A.deeper (PyProof.Rows.envOfC d.qual d.scope s.heap.objs.size f cdv)) →
      LSs ⟨cxOf (L2N.CX P w) P w K mg base N d.qual d.scope f cdv A outer s H E, none⟩ (WF E) d.body ds) (hnp : ps.length = np := by rfl) (hn : N.length = n := by rfl) : OwnAt P w K mg base (k + 1) x ps (dFun np n ds) f fd := by
  subst hnp hn
  exact ⟨hm, F.kp, F.bindsN hbi, fn_okD F S hb⟩
/-- the law's promise from its def's reading -/
theorem law_sp {K : PySem.W.Frag} {w : World} {mg : Str → Option Value} {F : DF} {n : Nat} (h : ∀ ns : List Int, ns.length ≤ n → ∃ S', F [.flst (ns.map T.int)] [] = .ok (.bl true) S') {H : Hp} {a : Addr} {ns : List Int} (hl : ns.length ≤ n) (ho : Only H) (hs : SqL K H a (ns.map V.int)) :
    spD K w mg 1 F [.ref a] H (fun v _ => v = .bl true) fun _ _ _ => False := by
  have hints : ∀ ms : List Int, RepVs K w H [] [] (ms.map V.int) (ms.map T.int) := fun ms => by
    induction ms with
    | nil => exact .nil
    | cons m ms ih => exact .cons (.int m) ih
  have r : RepV K w H [] [] (.ref a) (.flst (ns.map T.int)) := .flst (by
    rcases hs with (hs | ⟨o, hs⟩) | hs
    · rcases ho a with q | ⟨o, xs, q⟩
      · rw [q] at hs; cases hs
      · rw [q] at hs; cases hs
    · exact .inl ⟨o, hs⟩
    · exact .inr hs) (hints ns)
  obtain ⟨S', e⟩ := h ns hl
  refine ⟨rfl, [], [], [.flst (ns.map T.int)], [], ⟨rfl, List.nodup_nil, fun i a o h => by simp at h, fun a h => nomatch h⟩, .cons r .nil, ?_⟩
  rw [e]
  exact fun v H' ρ' _ _ r => RepV.bl_inv (r : RepV K w H' ρ' [] v (.bl true))
/-- THE END of a law -/
theorem walk_law {l : PySem.W.OpenLaw} {k : Nat} {q : Program} {loose : List Str} {XP : (Str → Option Value) → Heap → Prop} {YP : World → Heap → Prop} {d : DefRec} {F : DF} (hn : l.most = some 63) (hdf : d.params.defaults = []) (hr : Room k callerA) (hF : ∀ ns : List Int, ns.length ≤ 63 → ∃ S', F [.flst (ns.map T.int)] [] = .ok (.bl true) S')
    (hX : ∀ (w : World) (mg : Str → Option Value) (fa : Addr) (h : Heap), YP w h → h.Ns mainGlobals mg → mg d.name = some (.ref fa) →
      ∃ (K : PySem.W.Frag) (fd : FuncData), K.In h ∧ (∀ (s : Shared) (u : Value), BindsTo s fd ⟨[u], []⟩ [("script", u)]) ∧ ∀ base : Heap, ∃ f, mg d.name = some (.ref f) ∧ OwnAt l.prog w K mg base k "law" ["script"] F f fd) :
    PySem.W.WalkO q loose XP YP l.row.toRowW d [] (fun f vs => PySem.call f vs) := by
  refine Att.attach_call hn hdf fun w s₀ s₁ mg mb fa o pm cd doc a vs ns G Y ho hd hcd hmg hobj hints hlen hg => ?_
  obtain ⟨K, fd, KX, hb, hO⟩ := hX w mg fa _ Y G.T.g hmg
  refine law_call (CX := L2N.CX l.prog w) (sp := spD K w mg 1 F) KX G.T.g G.T.b G.T.builtins G.T.nolimit hg hobj hints (Nat.le_trans hlen (by decide)) hr (fun base _ _ => ?_) hb (fun H h1 h2 => law_sp hF hlen h1 h2) fun H e s' c => ?_
  · obtain ⟨f, e, O⟩ := hO base
    rw [hmg] at e
    cases e
    exact O.ok
  · obtain ⟨_, _, _, _, _, _, _, _, _, _, _, _, z⟩ := c
    exact z

/-! ### small helpers -/
section
variable {X : DX} {W : WX} {pos : Pos}
theorem pip_addI : PIp X .Add rAddI := fun pins s σ H x y v u Q I rx ry q => iop_addI pins s σ H x y v u Q I rx ry q
def dNotB (c : DB) : DE := fun sl S => (c sl S).bindE fun k S1 => .ok (.bl (!k)) S1
def blkB (N : List Str) (sc scope : Scope) (own : List (Str × Nat)) : Bool :=
  decide (scope.kind = .function) && ((scope.names.all fun y => decide (scope.names.lookup y.1 = some y.2)) && ((own.all fun p => decide (N[p.2]? = some p.1)) &&
    ((scope.names.all fun y => decide (y.2 = .free → sc.names.lookup y.1 = some .cell ∨ sc.names.lookup y.1 = some .free)) && scope.names.all fun y => decide (y.2 = .local ∨ y.2 = .cell → y.1 ∈ own.map (·.1) ∨ y.1 ∉ N))))
theorem blk_of {N : List Str} {sc scope : Scope} {own : List (Str × Nat)} (h : blkB N sc scope own = true) : BlkOk N sc scope own := by
  unfold blkB at h
  simp only [Bool.and_eq_true] at h
  obtain ⟨h1, h2, h3, h4, h5⟩ := h
  exact ⟨of_decide_eq_true h1, fun y hy => of_decide_eq_true (List.all_eq_true.mp h2 y hy), fun p hp => of_decide_eq_true (List.all_eq_true.mp h3 p hp), fun y hy => of_decide_eq_true (List.all_eq_true.mp h4 y hy), fun y hy => of_decide_eq_true (List.all_eq_true.mp h5 y hy)⟩
end
end Dn

/-! reading the denotations: one line a construct -/
namespace Dn
open PySem PySem.Spec L2

/-! ### binds -/
section
variable {t : T} {S S1 : Sto} {sl sl1 : Sl} {b : Bool} {c : Str} {fs : Flds} {ts : List T}
@[simp] theorem RE.bind_ok (f : T → Sto → RE) : (RE.ok t S).bind f = f t S := id rfl
@[simp] theorem RE.bind_bad (f : T → Sto → RE) : RE.bad.bind f = .bad := id rfl
@[simp] theorem RE.bind_exc (f : T → Sto → RE) : (RE.exc c fs S).bind f = .exc c fs S := id rfl
@[simp] theorem RE.toS_ok (f : T → Sto → RS) : (RE.ok t S).toS sl f = f t S := id rfl
@[simp] theorem RE.toS_exc (f : T → Sto → RS) : (RE.exc c fs S).toS sl f = .exc c fs sl S := id rfl
@[simp] theorem RB.toS_ok (f : Bool → Sto → RS) : (RB.ok b S).toS sl f = f b S := id rfl
@[simp] theorem RB.toS_exc (f : Bool → Sto → RS) : (RB.exc c fs S).toS sl f = .exc c fs sl S := id rfl
@[simp] theorem RB.bind_ok (f : Bool → Sto → RB) : (RB.ok b S).bind f = f b S := id rfl
@[simp] theorem RB.bindE_ok (f : Bool → Sto → RE) : (RB.ok b S).bindE f = f b S := id rfl
@[simp] theorem RO.bindE_ok {o : Option Int} (f : Option Int → Sto → RE) : (RO.ok o S).bindE f = f o S := id rfl
@[simp] theorem RA.bind_ok (f : List T → Sto → RE) : (RA.ok ts S).bind f = f ts S := id rfl
def RS.seq (r : RS) (b : DS) : RS := match r with
  | .nx sl' S' => b sl' S'
  | r => r
@[simp] theorem RS.seq_nx (d : DS) : (RS.nx sl S).seq d = d sl S := id rfl
@[simp] theorem RS.seq_rt (d : DS) : (RS.rt t S).seq d = .rt t S := id rfl
@[simp] theorem RS.seq_bk (d : DS) : (RS.bk sl S).seq d = .bk sl S := id rfl
@[simp] theorem RS.seq_ct (d : DS) : (RS.ct sl S).seq d = .ct sl S := id rfl
@[simp] theorem RS.seq_exc (d : DS) : (RS.exc c fs sl S).seq d = .exc c fs sl S := id rfl
@[simp] theorem dSeq_eq (a b : DS) : dSeq a b sl S = (a sl S).seq b := id rfl
def varR (o : Option (Option T)) (S : Sto) : RE := match o with
  | some (some t) => .ok t S
  | _ => .bad
@[simp] theorem varR_some : varR (some (some t)) S = .ok t S := id rfl
@[simp] theorem dVar_eq (i : Nat) : dVar i sl S = varR sl[i]? S := id rfl
@[simp] theorem dC_eq : dC t sl S = .ok t S := id rfl
@[simp] theorem dBin_eq (f : T → T → Sto → RE) (da db : DE) : dBin f da db sl S = (da sl S).bind fun x S1 => (db sl S1).bind fun y S2 => f (fz x) (fz y) S2 := id rfl
@[simp] theorem dUn_eq (f : T → Sto → RE) (da : DE) : dUn f da sl S = (da sl S).bind fun x S1 => f (fz x) S1 := id rfl
def RE.toB (r : RE) : RB := match r with
  | .ok (.bl b) S' => .ok b S'
  | .ok _ _ => .bad
  | .exc c fs S' => .exc c fs S'
  | .bad => .bad
@[simp] theorem RE.toB_ok : (RE.ok (.bl b) S).toB = .ok b S := id rfl
@[simp] theorem dTest_eq (d : DE) : dTest d sl S = (d sl S).toB := id rfl
def RE.toT (r : RE) : RB := match r with
  | .ok t S' => (match truT S' (fz t) with | some b => .ok b S' | none => .bad)
  | .exc c fs S' => .exc c fs S'
  | .bad => .bad
@[simp] theorem RE.toT_bl : (RE.ok (.bl b) S).toT = .ok b S := id rfl
@[simp] theorem dTru_eq (d : DE) : dTru d sl S = (d sl S).toT := id rfl
@[simp] theorem dAnd_eq (a b : DB) : dAnd a b sl S = (a sl S).bind fun c S1 => if c then b sl S1 else .ok false S1 := id rfl
@[simp] theorem dOr_eq (a b : DB) : dOr a b sl S = (a sl S).bind fun c S1 => if c then .ok true S1 else b sl S1 := id rfl
@[simp] theorem dNot_eq (a : DB) : dNot a sl S = (a sl S).bind fun c S1 => .ok (!c) S1 := id rfl
def RE.andV (r : RE) (f : Sto → RE) : RE := r.bind fun x S1 => match x with
  | .bl true => f S1
  | .bl false => .ok (.bl false) S1
  | _ => .bad
@[simp] theorem RE.andV_ok (f : Sto → RE) : (RE.ok (.bl b) S).andV f = if b then f S else .ok (.bl false) S := by cases b <;> rfl
@[simp] theorem dAndV_eq (a d : DE) : dAndV a d sl S = (a sl S).andV (d sl) := id rfl
def RE.orV (r : RE) (f : Sto → RE) : RE := r.bind fun x S1 => match x with
  | .bl true => .ok (.bl true) S1
  | .bl false => f S1
  | _ => .bad
@[simp] theorem RE.orV_ok (f : Sto → RE) : (RE.ok (.bl b) S).orV f = if b then .ok (.bl true) S else f S := by cases b <;> rfl
@[simp] theorem dOrV_eq (a d : DE) : dOrV a d sl S = (a sl S).orV (d sl) := id rfl
def RE.notV (r : RE) : RE := r.bind fun x S1 => match x with
  | .bl b => .ok (.bl (!b)) S1
  | _ => .bad
@[simp] theorem RE.notV_ok : (RE.ok (.bl b) S).notV = .ok (.bl (!b)) S := id rfl
@[simp] theorem dNotV_eq (a : DE) : dNotV a sl S = (a sl S).notV := id rfl
@[simp] theorem dIfE_eq (c : DB) (a b : DE) : dIfE c a b sl S = (c sl S).bindE fun k S1 => if k then a sl S1 else b sl S1 := id rfl
def RE.chainV (r : RE) (f : Sto → RE) : RE := r.bind fun z S3 => match z with
  | .bl true => f S3
  | .bl false => .ok (.bl false) S3
  | _ => .bad
@[simp] theorem RE.chainV_ok (f : Sto → RE) : (RE.ok (.bl b) S).chainV f = if b then f S else .ok (.bl false) S := by cases b <;> rfl
@[simp] theorem dChain_eq (f g : T → T → Sto → RE) (da db dc : DE) : dChain f g da db dc sl S = (da sl S).bind fun x S1 => (db sl S1).bind fun y S2 => (f (fz x) (fz y) S2).chainV fun S3 => (dc sl S3).bind fun u S4 => g (fz y) (fz u) S4 := id rfl
@[simp] theorem dNil_eq : dNil sl S = .ok [] S := id rfl
def RE.consA (r : RE) (f : Sto → RA) : RA := match r with
  | .ok t S1 => (match f S1 with
    | .ok ts S2 => .ok (fz t :: ts) S2
    | .exc c fs S2 => .exc c fs S2
    | .bad => .bad)
  | .exc c fs S1 => .exc c fs S1
  | .bad => .bad
def RA.cons (t : T) (r : RA) : RA := match r with
  | .ok ts S2 => .ok (t :: ts) S2
  | r => r
@[simp] theorem RA.cons_ok : (RA.ok ts S).cons t = .ok (t :: ts) S := id rfl
@[simp] theorem RE.consA_ok (f : Sto → RA) : (RE.ok t S).consA f = (f S).cons (fz t) := by
  unfold RE.consA RA.cons
  simp only
  cases f S <;> rfl
@[simp] theorem dCons_eq (d : DE) (r : DA) : dCons d r sl S = (d sl S).consA (r sl) := id rfl
@[simp] theorem dTup_eq (d : DA) : dTup d sl S = (d sl S).bind fun ts S1 => if ts.length ≤ sizeLine then .ok (.tup ts) S1 else .bad := id rfl
@[simp] theorem dLst_eq (d : DA) : dLst d sl S = (d sl S).bind fun ts S1 => if ts.length ≤ sizeLine then .ok (.nlst ts) S1 else .bad := id rfl
@[simp] theorem dCall_eq (f : List T → Sto → RE) (d : DA) : dCall f d sl S = (d sl S).bind f := id rfl
@[simp] theorem dOwn_eq (np : Nat) (d : DF) (da : DA) : dOwn np d da sl S = (da sl S).bind fun ts S1 => if ts.length = np then d ts S1 else .bad := id rfl
@[simp] theorem dOwnK_eq (n m : Nat) (perm : List Nat) (np : Nat) (d : DF) (da dk : DA) : dOwnK n m perm np d da dk sl S = (da sl S).bind fun ts S1 => (dk sl S1).bind fun us S2 => if ts.length = n ∧ us.length = m ∧ (permL perm (ts ++ us)).length = np then d (permL perm (ts ++ us)) S2 else .bad := id rfl
@[simp] theorem dNoPart_eq : dNoPart sl S = .ok none S := id rfl
def RE.part (r : RE) : RO := match r with
  | .ok (.int i) S1 => .ok (some i) S1
  | .ok _ _ => .bad
  | .exc c fs S1 => .exc c fs S1
  | .bad => .bad
@[simp] theorem RE.part_int {i : Int} : (RE.ok (.int i) S).part = .ok (some i) S := id rfl
@[simp] theorem dSl_eq (da : DE) (dl dh : DO) : dSl da dl dh sl S = (da sl S).bind fun x S1 => (dl sl S1).bindE fun l S2 => (dh sl S2).bindE fun u S3 => fSl (fz x) l u S3 := id rfl
@[simp] theorem dMeth_eq (N : String) (f : T → List T → Sto → RE) (d : DE) (da : DA) : dMeth N f d da sl S = (d sl S).bind fun x S1 => if mTy S1 (fz x) = some N then (da sl S1).bind fun ts S2 => f (fz x) ts S2 else .bad := id rfl
@[simp] theorem dMeth0_eq (N : String) (f : T → List T → Sto → RE) (d : DE) : dMeth0 N f d sl S = (d sl S).bind fun x S1 => if mTy S1 (fz x) = some N then f (fz x) [] S1 else .bad := id rfl
def RE.m (r : RE) : RE := r.bind fun t S1 => match t with
  | .nlst ts => .ok (.ref S1.length) (S1 ++ [.lst ts])
  | t => .ok t S1
@[simp] theorem RE.m_nlst : (RE.ok (.nlst ts) S).m = .ok (.ref S.length) (S ++ [.lst ts]) := id rfl
@[simp] theorem dM_eq (d : DE) : dM d sl S = (d sl S).m := id rfl
def RE.orElse' (a b : RE) : RE := match a with
  | .bad => b
  | r => r
@[simp] theorem RE.orElse_ok (r : RE) : (RE.ok t S).orElse' r = .ok t S := id rfl
@[simp] theorem RE.orElse_bad (r : RE) : RE.bad.orElse' r = r := id rfl
def ixtR : T → RA → RE := fun x r => match x with
  | .tup us => r.bind fun ts S2 => fIndexT us ts S2
  | _ => .bad
@[simp] theorem ixtR_tup {us : List T} {r : RA} : ixtR (.tup us) r = r.bind fun ts S2 => fIndexT us ts S2 := id rfl
@[simp] theorem ixtR_str {z : Str} {r : RA} : ixtR (.str z) r = .bad := id rfl
@[simp] theorem dIndexT_eq (d : DE) (da : DA) : dIndexT d da sl S = (d sl S).bind fun x S1 => ixtR (fz x) (da sl S1) := by
  unfold dIndexT ixtR
  cases d sl S with
  | ok t S1 =>
    first
    | rfl
    | (simp only [RE.bind_ok]; done)
    | (simp only [RE.bind_ok]; cases fz t <;> rfl)
  | exc c fs S1 => rfl
  | bad => rfl
@[simp] theorem dOrElse_eq (a b : DE) : dOrElse a b sl S = (a sl S).orElse' (b sl S) := by unfold dOrElse RE.orElse'; cases a sl S <;> rfl
def isiR (N : String) (o : Option String) (S : Sto) : RE := match o with
  | some n => .ok (.bl (isaB n N)) S
  | none => .bad
@[simp] theorem isiR_some {n N : String} : isiR N (some n) S = .ok (.bl (isaB n N)) S := id rfl
@[simp] theorem dIsi_eq (N : String) (d : DE) : dIsi N d sl S = (d sl S).bind fun x S1 => isiR N (tyT S1 (fz x)) S1 := id rfl
/-! ### statements -/
@[simp] theorem dNext_eq : dNext sl S = .nx sl S := id rfl
@[simp] theorem dBreak_eq : dBreak sl S = .bk sl S := id rfl
@[simp] theorem dCont_eq : dCont sl S = .ct sl S := id rfl
@[simp] theorem dExpr_eq (d : DE) : dExpr d sl S = (d sl S).toS sl fun _ S1 => .nx sl S1 := id rfl
@[simp] theorem dRet_eq (d : DE) : dRet d sl S = (d sl S).toS sl fun t S1 => .rt t S1 := id rfl
@[simp] theorem dRetN_eq : dRetN sl S = .rt .non S := id rfl
@[simp] theorem dIf_eq (c : DB) (a b : DS) : dIf c a b sl S = (c sl S).toS sl fun k S1 => if k then a sl S1 else b sl S1 := id rfl
@[simp] theorem dSet_eq (i : Nat) (d : DE) : dSet i d sl S = (d sl S).toS sl fun t S1 => .nx (sl.set i (some (fz t))) S1 := id rfl
def setM (i : Nat) (sl : Sl) (S1 : Sto) (t : T) : RS := match t with
  | .nlst ts => .nx (sl.set i (some (.ref S1.length))) (S1 ++ [.lst ts])
  | t => .nx (sl.set i (some t)) S1
@[simp] theorem setM_nlst {i : Nat} : setM i sl S (.nlst ts) = .nx (sl.set i (some (.ref S.length))) (S ++ [.lst ts]) := id rfl
@[simp] theorem setM_ref {i k : Nat} : setM i sl S (.ref k) = .nx (sl.set i (some (.ref k))) S := id rfl
@[simp] theorem dSetM_eq (i : Nat) (d : DE) : dSetM i d sl S = (d sl S).toS sl fun t S1 => setM i sl S1 t := id rfl
def asgR (o : Option (Sl × Sto)) : RS := match o with
  | some (sl', S') => .nx sl' S'
  | none => .bad
@[simp] theorem asgR_some : asgR (some (sl, S)) = .nx sl S := id rfl
@[simp] theorem dAsg_eq (d : DE) (g : DG) : dAsg d g sl S = (d sl S).toS sl fun t S1 => asgR (g (fz t) sl S1) := id rfl
@[simp] theorem gN_eq (i : Nat) : gN i t sl S = some (sl.set i (some t), S) := id rfl
@[simp] theorem gsNil_eq : gsNil [] sl S = some (sl, S) := id rfl
def gsR (o : Option (Sl × Sto)) (f : Sl → Sto → Option (Sl × Sto)) : Option (Sl × Sto) := match o with
  | some (sl', S') => f sl' S'
  | none => none
@[simp] theorem gsR_some (f : Sl → Sto → Option (Sl × Sto)) : gsR (some (sl, S)) f = f sl S := id rfl
@[simp] theorem gsCons_eq (g : DG) (r : DGs) : gsCons g r (t :: ts) sl S = gsR (g t sl S) (r ts) := id rfl
def gTR (o : Option (List T)) (n : Nat) (g : DGs) (sl : Sl) (S : Sto) : Option (Sl × Sto) := match o with
  | some ts => if ts.length = n then g ts sl S else none
  | none => none
@[simp] theorem gTR_some {n : Nat} (g : DGs) : gTR (some ts) n g sl S = if ts.length = n then g ts sl S else none := id rfl
@[simp] theorem gT_eq (n : Nat) (g : DGs) : gT n g t sl S = gTR (tupOf t) n g sl S := id rfl
@[simp] theorem tupOf_tup : tupOf (.tup ts) = some ts := id rfl
@[simp] theorem tupOf_ktup : tupOf (.ktup ts) = some ts := id rfl
/-! ### ops -/
@[simp] theorem fz_nlst : fz (.nlst ts) = .lst ts := id rfl
@[simp] theorem fz_lst : fz (.lst ts) = .lst ts := id rfl
@[simp] theorem fz_flst : fz (.flst ts) = .flst ts := id rfl
@[simp] theorem fz_tup : fz (.tup ts) = .tup ts := id rfl
@[simp] theorem fz_ktup : fz (.ktup ts) = .ktup ts := id rfl
@[simp] theorem fz_int {i : Int} : fz (.int i) = .int i := id rfl
@[simp] theorem fz_str {x : Str} : fz (.str x) = .str x := id rfl
@[simp] theorem fz_bl : fz (.bl b) = .bl b := id rfl
@[simp] theorem fz_non : fz .non = .non := id rfl
@[simp] theorem fz_ref {k : Nat} : fz (.ref k) = .ref k := id rfl
@[simp] theorem fz_dic {kvs : List (Key × T)} : fz (.dic kvs) = .dic kvs := id rfl
@[simp] theorem fAdd_int {i j : Int} : fAdd (.int i) (.int j) S = .ok (.int (i + j)) S := id rfl
@[simp] theorem fAdd_tup {xs ys : List T} : fAdd (.tup xs) (.tup ys) S = if xs.length + ys.length ≤ sizeLine then .ok (.tup (xs ++ ys)) S else .bad := id rfl
@[simp] theorem fAdd_str {x y : Str} : fAdd (.str x) (.str y) S = if x.length + y.length ≤ sizeLine then .ok (.str (x ++ y)) S else .bad := id rfl
@[simp] theorem fAdd_lst {xs ys : List T} : fAdd (.lst xs) (.lst ys) S = if xs.length + ys.length ≤ sizeLine then .ok (.nlst (xs ++ ys)) S else .bad := id rfl
@[simp] theorem fInt_int {C : Int → Int → Prop} [∀ i j, Decidable (C i j)] {g : Int → Int → Int} {i j : Int} : fInt C g (.int i) (.int j) S = if C i j then .ok (.int (g i j)) S else .bad := id rfl
@[simp] theorem fMul_str {z : Str} {k : Int} : fMul (.str z) (.int k) S = if -(2 ^ 63) ≤ k ∧ k < 2 ^ 63 ∧ z.length * k.toNat ≤ 16777216 then .ok (.str (repS z k.toNat)) S else .bad := id rfl
@[simp] theorem fMul_tup {xs : List T} {k : Int} : fMul (.tup xs) (.int k) S = if k = 1 then .ok (.tup xs) S else if xs ≠ [] ∧ 2 ≤ k ∧ k ≤ 1000 ∧ xs.length ≤ 1000 then .ok (.tup (List.replicate k.toNat xs).flatten) S else .bad := id rfl
@[simp] theorem fMul_int {i j : Int} : fMul (.int i) (.int j) S = if CMulA i j then .ok (.int (i * j)) S else .bad := id rfl
@[simp] theorem fLt_int {fi : Int → Int → Bool} {fs : List Nat → List Nat → Bool} {i j : Int} : fLt fi fs (.int i) (.int j) S = .ok (.bl (fi i j)) S := id rfl
@[simp] theorem fEq_int {n : Bool} {i j : Int} : fEq n (.int i) (.int j) S = .ok (.bl (if n then !decide (i = j) else decide (i = j))) S := id rfl
@[simp] theorem fEq_str {n : Bool} {i j : Str} : fEq n (.str i) (.str j) S = .ok (.bl (if n then !decide (i = j) else decide (i = j))) S := id rfl
@[simp] theorem fEq_bl {n : Bool} {i j : Bool} : fEq n (.bl i) (.bl j) S = .ok (.bl (if n then !decide (i = j) else decide (i = j))) S := id rfl
theorem fEq_tup {n : Bool} {xs ys : List T} : fEq n (.tup xs) (.tup ys) S = if fit (T.tup xs).dat && fit (T.tup ys).dat then .ok (.bl (if n then !(PyData.eqv (T.tup xs).dat (T.tup ys).dat) else PyData.eqv (T.tup xs).dat (T.tup ys).dat)) S else .bad := id rfl
@[simp] theorem fIs_non {n : Bool} : fIs n .non .non S = .ok (.bl (!n)) S := id rfl
@[simp] theorem fIs_tup {n : Bool} : fIs n (.tup ts) .non S = .ok (.bl n) S := id rfl
@[simp] theorem fIs_int {n : Bool} {i : Int} : fIs n (.int i) .non S = .ok (.bl n) S := id rfl
@[simp] theorem fIs_str {n : Bool} {i : Str} : fIs n (.str i) .non S = .ok (.bl n) S := id rfl
def ixR (o : Option T) (S : Sto) : RE := match o with
  | some t => .ok t S
  | none => .bad
@[simp] theorem ixR_some : ixR (some t) S = .ok t S := id rfl
@[simp] theorem fIx_tup {i : Int} : fIx (.tup ts) (.int i) S = ixR (atI ts i) S := id rfl
@[simp] theorem fIx_ktup {i : Int} : fIx (.ktup ts) (.int i) S = ixR (atI ts i) S := id rfl
@[simp] theorem fIx_lst {i : Int} : fIx (.lst ts) (.int i) S = ixR (atI ts i) S := id rfl
@[simp] theorem fIx_flst {i : Int} : fIx (.flst ts) (.int i) S = ixR (atI ts i) S := id rfl
theorem fIx_ref {i : Int} {k : Nat} (h : S[k]? = some (.lst ts)) : fIx (.ref k) (.int i) S = ixR (atI ts i) S := by
  unfold fIx
  have : seqOf S (.ref k) = some ts := by unfold seqOf lstOf; simp only [h]
  simp only [this]
  rfl
def ixO (o : Option (Option T)) (S : Sto) : RE := match o with
  | some (some t) => .ok t S
  | _ => .bad
@[simp] theorem ixO_some : ixO (some (some t)) S = .ok t S := id rfl
theorem fIx_dic {kvs : List (Key × T)} {x : Str} : fIx (.dic kvs) (.str x) S = ixO (some (getT kvs (.inr x))) S := id rfl
@[simp] theorem lstOf_lst : lstOf S (.lst ts) = some ts := id rfl
@[simp] theorem lstOf_flst : lstOf S (.flst ts) = some ts := id rfl
theorem lstOf_ref {k : Nat} (h : S[k]? = some (.lst ts)) : lstOf S (.ref k) = some ts := by unfold lstOf; simp only [h]
@[simp] theorem seqOf_lst : seqOf S (.lst ts) = some ts := id rfl
@[simp] theorem seqOf_flst : seqOf S (.flst ts) = some ts := id rfl
@[simp] theorem seqOf_tup : seqOf S (.tup ts) = some ts := id rfl
@[simp] theorem seqOf_ktup : seqOf S (.ktup ts) = some ts := id rfl
theorem seqOf_ref {k : Nat} (h : S[k]? = some (.lst ts)) : seqOf S (.ref k) = some ts := by unfold seqOf; exact lstOf_ref h
@[simp] theorem fLen_str {x : Str} : fLen [.str x] S = if x.length ≤ sizeLine then .ok (.int x.length) S else .bad := id rfl
@[simp] theorem fLen_tup : fLen [.tup ts] S = .ok (.int ts.length) S := id rfl
@[simp] theorem fLen_ktup : fLen [.ktup ts] S = .ok (.int ts.length) S := id rfl
@[simp] theorem fLen_lst : fLen [.lst ts] S = .ok (.int ts.length) S := id rfl
@[simp] theorem fLen_flst : fLen [.flst ts] S = .ok (.int ts.length) S := id rfl
theorem fLen_ref {k : Nat} (h : S[k]? = some (.lst ts)) : fLen [.ref k] S = .ok (.int ts.length) S := by
  unfold fLen
  simp only [seqOf_ref h]
@[simp] theorem fInt1_int {i : Int} : fInt1 [.int i] S = .ok (.int i) S := id rfl
@[simp] theorem fAbs_int {i : Int} : fAbs [.int i] S = .ok (.int (if i < 0 then -i else i)) S := id rfl
@[simp] theorem fTuple_tup : fTuple [.tup ts] S = .ok (.tup ts) S := id rfl
@[simp] theorem fTuple_lst : fTuple [.lst ts] S = .ok (.tup ts) S := id rfl
theorem fTuple_ref {k : Nat} (h : S[k]? = some (.lst ts)) : fTuple [.ref k] S = .ok (.tup ts) S := by
  unfold fTuple
  simp only [lstOf_ref h]
@[simp] theorem fTuple_str {z : Str} : fTuple [.str z] S = if z.length ≤ sizeLine then .ok (.tup (signs z)) S else .bad := id rfl
@[simp] theorem fList_str {z : Str} : fList [.str z] S = if z.length ≤ sizeLine then .ok (.nlst (signs z)) S else .bad := id rfl
@[simp] theorem fRev_tup : fRev (.tup ts) S = .ok (.tup ts.reverse) S := id rfl
@[simp] theorem fList_tup : fList [.tup ts] S = .ok (.nlst ts) S := id rfl
@[simp] theorem fList_lst : fList [.lst ts] S = .ok (.nlst ts) S := id rfl
@[simp] theorem fList_flst : fList [.flst ts] S = .ok (.nlst ts) S := id rfl
theorem fList_ref {k : Nat} (h : S[k]? = some (.lst ts)) : fList [.ref k] S = .ok (.nlst ts) S := by
  unfold fList
  simp only [seqOf_ref h]
@[simp] theorem fMax2_int {i j : Int} : fMax2 [.int i, .int j] S = .ok (.int (if j > i then j else i)) S := id rfl
@[simp] theorem fMin2_int {i j : Int} : fMin2 [.int i, .int j] S = .ok (.int (if j < i then j else i)) S := id rfl
@[simp] theorem fSl_tup {l u : Option Int} : fSl (.tup ts) l u S = .ok (.tup (cutT ts l u)) S := id rfl
@[simp] theorem fSl_lst {l u : Option Int} : fSl (.lst ts) l u S = .ok (.nlst (cutT ts l u)) S := id rfl
@[simp] theorem fSl_str {x : Str} {l u : Option Int} : fSl (.str x) l u S = if x.length ≤ sizeLine then .ok (.str (cutS x l u)) S else .bad := id rfl
@[simp] theorem mTy_str {x : Str} : mTy S (.str x) = some "str" := id rfl
@[simp] theorem mTy_lst : mTy S (.lst ts) = some "list" := id rfl
theorem mTy_ref {k : Nat} (h : S[k]? = some (.lst ts)) : mTy S (.ref k) = some "list" := by unfold mTy; simp only [h]
theorem fAppend_ref {k : Nat} {y : T} (h : S[k]? = some (.lst ts)) : fAppend (.ref k) [y] S = if ts.length < sizeLine then .ok .non (S.set k (.lst (ts ++ [y]))) else .bad := by
  unfold fAppend
  simp only [h]
end
/-- all of them, to unfold a text -/
@[simp] theorem dPart_eq {d : DE} {sl : Sl} {S : Sto} : dPart d sl S = (d sl S).part := by
  unfold dPart RE.part
  cases d sl S with
  | ok t S1 => cases t <;> rfl
  | _ => rfl
end Dn

/-! loops, comprehensions, a def's end -/
namespace Dn
open PySem PySem.Spec L2

/-! ### what tells of nothing in the store -/
mutual
theorem T.lt_mono {m n : Nat} (h : m ≤ n) : ∀ {t : T}, t.lt m = true → t.lt n = true
  | .non, _ => rfl
  | .bl _, _ => rfl
  | .int _, _ => rfl
  | .str _, _ => rfl
  | .tup ts, c => by rw [T.lt] at c ⊢; exact T.lts_mono h c
  | .lst ts, c => by rw [T.lt] at c ⊢; exact T.lts_mono h c
  | .nlst ts, c => by rw [T.lt] at c ⊢; exact T.lts_mono h c
  | .flst ts, c => by rw [T.lt] at c ⊢; exact T.lts_mono h c
  | .ktup ts, c => by rw [T.lt] at c ⊢; exact T.lts_mono h c
  | .ref i, c => by rw [T.lt] at c ⊢; have := of_decide_eq_true c; exact decide_eq_true (by omega)
  | .dic kvs, c => by rw [T.lt] at c ⊢; exact T.ltk_mono h c
theorem T.lts_mono {m n : Nat} (h : m ≤ n) : ∀ {ts : List T}, T.lts m ts = true → T.lts n ts = true
  | [], _ => rfl
  | t :: ts, c => by
    rw [T.lts, Bool.and_eq_true] at c ⊢
    exact ⟨T.lt_mono h c.1, T.lts_mono h c.2⟩
theorem T.ltk_mono {m n : Nat} (h : m ≤ n) : ∀ {ts : List (Key × T)}, T.ltk m ts = true → T.ltk n ts = true
  | [], _ => rfl
  | (k, t) :: ts, c => by
    rw [T.ltk, Bool.and_eq_true] at c ⊢
    exact ⟨T.lt_mono h c.1, T.ltk_mono h c.2⟩
end
theorem T.lts_all {n : Nat} : ∀ {ts : List T}, T.lts n ts = ts.all fun t => t.lt n
  | [] => rfl
  | t :: ts => by rw [T.lts, T.lts_all, List.all_cons]
@[simp] theorem lt_non {n : Nat} : T.lt n .non = true := id rfl
@[simp] theorem lt_bl {n : Nat} {b : Bool} : T.lt n (.bl b) = true := id rfl
@[simp] theorem lt_int {n : Nat} {b : Int} : T.lt n (.int b) = true := id rfl
@[simp] theorem lt_str {n : Nat} {b : Str} : T.lt n (.str b) = true := id rfl
@[simp] theorem lt_tup {n : Nat} {ts : List T} : T.lt n (.tup ts) = T.lts n ts := by rw [T.lt]
@[simp] theorem lt_lst {n : Nat} {ts : List T} : T.lt n (.lst ts) = T.lts n ts := by rw [T.lt]
@[simp] theorem lt_nlst {n : Nat} {ts : List T} : T.lt n (.nlst ts) = T.lts n ts := by rw [T.lt]
@[simp] theorem ltsN {n : Nat} : T.lts n [] = true := id rfl
@[simp] theorem ltsC {n : Nat} {t : T} {ts : List T} : T.lts n (t :: ts) = (t.lt n && T.lts n ts) := by rw [T.lts]
theorem ltsM {α : Type} {n : Nat} {f : α → T} {xs : List α} (h : ∀ x ∈ xs, (f x).lt n = true) : T.lts n (xs.map f) = true := by
  rw [T.lts_all, List.all_eq_true]
  intro t ht
  obtain ⟨x, hx, rfl⟩ := List.mem_map.mp ht
  exact h x hx

/-! ### a def's end -/
theorem CutOk.refl (S : Sto) : CutOk S S := ⟨Nat.le_refl _, fun i _ o h => .inl h⟩
theorem CutOk.app (S X : Sto) : CutOk S (S ++ X) := ⟨by simp, fun i hi o h => .inl (by rwa [List.getElem?_append_left hi] at h)⟩
theorem dFun_eq {np n : Nat} {b : DS} {ts : List T} {S : Sto} (h : ts.length = np) : dFun np n b ts S = gcR S (b (ts.map some ++ List.replicate (n - np) none) S) := by
  unfold dFun; rw [if_pos h]
theorem gcT_cut {S S' : Sto} {t : T} (c : CutOk S S') (h : t.lt S.length = true) : gcT S t S' = .ok t (S'.take S.length) := by
  unfold gcT; rw [if_pos c, if_pos h]
theorem gcT_app {S X : Sto} {t : T} (h : t.lt S.length = true) : gcT S t (S ++ X) = .ok t S := by
  rw [gcT_cut (CutOk.app S X) h]; simp
theorem gcT_same {S : Sto} {t : T} (h : t.lt S.length = true) : gcT S t S = .ok t S := by
  rw [gcT_cut (CutOk.refl S) h]; simp
theorem gcT_ref {S X : Sto} {k : Nat} {ts : List T} (hk : S.length ≤ k) (h : (S ++ X)[k]? = some (.lst ts)) (h2 : T.lts S.length ts = true) : gcT S (.ref k) (S ++ X) = .ok (.nlst ts) S := by
  unfold gcT
  rw [if_pos (CutOk.app S X), if_neg (by rw [T.lt]; simp; omega)]
  simp only [h]
  rw [if_pos h2]
  simp
@[simp] theorem gcR_rt {S S' : Sto} {t : T} : gcR S (.rt t S') = gcT S t S' := id rfl
@[simp] theorem gcR_nx {S S' : Sto} {sl : Sl} : gcR S (.nx sl S') = gcT S .non S' := id rfl

/-! ### comprehensions -/
theorem dLc_eq (i : DI) (g : DG) (dt : DB) (de : DE) (vs : List Nat) (sl : Sl) (S : Sto) {src : Option Nat} {ts : List T} {S1 : Sto} (h : i sl S = .ok src ts S1) : dLc i g dt de vs sl S = lcL src ts g dt de (wipeT sl vs) ts [] S1 := by
  unfold dLc; rw [h]
/-- nothing is changed -/
theorem lcL_map {α : Type} {src : Option Nat} {all : List T} {g : DG} {dt : DB} {de : DE} {slw : Sl} {S : Sto} (hS : Still src all S) (e : α → T) (p : α → Bool) (y : α → T) : ∀ (xs : List α) (acc : List T),
    (∀ x ∈ xs, ∃ sl1, g (e x) slw S = some (sl1, S) ∧ dt sl1 S = .ok (p x) S ∧ (p x = true → ∃ r, de sl1 S = .ok r S ∧ fz r = y x)) → acc.length + xs.length ≤ sizeLine →
    lcL src all g dt de slw (xs.map e) acc S = .ok (.nlst (acc ++ (xs.filter p).map y)) S
  | [], acc, _, _ => by rw [List.map_nil, lcL, if_pos hS]; simp
  | x :: xs, acc, h, hl => by
    obtain ⟨sl1, h1, h2, h3⟩ := h x List.mem_cons_self
    rw [List.map_cons, lcL, if_pos hS, h1]
    simp only [h2]
    have ht : ∀ z ∈ xs, _ := fun z hz => h z (List.mem_cons_of_mem _ hz)
    rw [List.length_cons] at hl
    cases hp : p x with
    | true =>
      obtain ⟨r, h4, h5⟩ := h3 hp
      simp only [h4]
      rw [if_pos (by omega), lcL_map hS e p y xs _ ht (by rw [List.length_append, List.length_singleton]; omega), List.filter_cons_of_pos hp, List.map_cons, h5]
      simp
    | false =>
      simp only
      rw [lcL_map hS e p y xs _ ht (by omega), List.filter_cons_of_neg (by rw [hp]; simp)]
/-- each item changes the store -/
theorem lcL_st {α : Type} {src : Option Nat} {all : List T} {g : DG} {dt : DB} {de : DE} {slw : Sl} (I : Sto → Prop) (hS : ∀ S, I S → Still src all S) (e : α → T) (R : α → T → Prop) : ∀ (xs : List α) (acc : List T) (S : Sto), I S →
    (∀ x ∈ xs, ∀ S, I S → ∃ sl1, g (e x) slw S = some (sl1, S) ∧ dt sl1 S = .ok true S ∧ ∃ r S', de sl1 S = .ok r S' ∧ I S' ∧ R x (fz r)) → acc.length + xs.length ≤ sizeLine →
    ∃ ys S', lcL src all g dt de slw (xs.map e) acc S = .ok (.nlst (acc ++ ys)) S' ∧ I S' ∧ ys.length = xs.length ∧ ∀ (i : Nat) x, xs[i]? = some x → ∃ z, ys[i]? = some z ∧ R x z
  | [], acc, S, hI, _, _ => ⟨[], S, by rw [List.map_nil, lcL, if_pos (hS S hI)]; simp, hI, rfl, fun i x h => by simp at h⟩
  | x :: xs, acc, S, hI, h, hl => by
    obtain ⟨sl1, h1, h2, r, S', h4, h5, h6⟩ := h x List.mem_cons_self S hI
    rw [List.length_cons] at hl
    obtain ⟨ys, S2, q1, q2, q3, q4⟩ := lcL_st I hS e R xs (acc ++ [fz r]) S' h5 (fun z hz => h z (List.mem_cons_of_mem _ hz)) (by rw [List.length_append, List.length_singleton]; omega)
    refine ⟨fz r :: ys, S2, ?_, q2, by rw [List.length_cons, List.length_cons, q3], fun i z hz => ?_⟩
    · rw [List.map_cons, lcL, if_pos (hS S hI), h1]
      simp only [h2, h4]
      rw [if_pos (by omega), q1]
      simp
    · cases i with
      | zero =>
        simp only [List.getElem?_cons_zero, Option.some.injEq] at hz
        subst hz
        exact ⟨_, rfl, h6⟩
      | succ i =>
        rw [List.getElem?_cons_succ] at hz ⊢
        exact q4 i z hz

/-! ### for, while -/
theorem dFor_eq (i : DI) (g : DG) (b : DS) (sl : Sl) (S : Sto) {src : Option Nat} {ts : List T} {S1 : Sto} (h : i sl S = .ok src ts S1) : dFor i g b sl S = forL src ts g b ts sl S1 := by
  unfold dFor; rw [h]
theorem forL_inv {α : Type} {src : Option Nat} {all : List T} {g : DG} {b : DS} (e : α → T) (I : List α → Sl → Sto → Prop) (hS : ∀ xs sl S, I xs sl S → Still src all S)
    (h : ∀ x xs sl S, I (x :: xs) sl S → ∃ sl1 S1 sl2 S2, g (e x) sl S = some (sl1, S1) ∧ (b sl1 S1 = .nx sl2 S2 ∨ b sl1 S1 = .ct sl2 S2) ∧ I xs sl2 S2) : ∀ (xs : List α) (sl : Sl) (S : Sto), I xs sl S → ∃ sl' S', forL src all g b (xs.map e) sl S = .nx sl' S' ∧ I [] sl' S'
  | [], sl, S, hI => ⟨sl, S, by rw [List.map_nil, forL, if_pos (hS _ _ _ hI)], hI⟩
  | x :: xs, sl, S, hI => by
    obtain ⟨sl1, S1, sl2, S2, h1, h2, h3⟩ := h x xs sl S hI
    obtain ⟨sl', S', q1, q2⟩ := forL_inv e I hS h xs sl2 S2 h3
    refine ⟨sl', S', ?_, q2⟩
    rw [List.map_cons, forL, if_pos (hS _ _ _ hI), h1]
    rcases h2 with h2 | h2 <;> (simp only [h2]; exact q1)
/-- .., or out of it by a return -/
theorem forL_ret {α : Type} {src : Option Nat} {all : List T} {g : DG} {b : DS} (e : α → T) (I : List α → Sl → Sto → Prop) (P : T → Sto → Prop) (hS : ∀ xs sl S, I xs sl S → Still src all S)
    (h : ∀ x xs sl S, I (x :: xs) sl S → ∃ sl1 S1, g (e x) sl S = some (sl1, S1) ∧ ((∃ sl2 S2, (b sl1 S1 = .nx sl2 S2 ∨ b sl1 S1 = .ct sl2 S2) ∧ I xs sl2 S2) ∨ ∃ t S2, b sl1 S1 = .rt t S2 ∧ P t S2)) : ∀ (xs : List α) (sl : Sl) (S : Sto), I xs sl S →
    (∃ sl' S', forL src all g b (xs.map e) sl S = .nx sl' S' ∧ I [] sl' S') ∨ ∃ t S', forL src all g b (xs.map e) sl S = .rt t S' ∧ P t S'
  | [], sl, S, hI => .inl ⟨sl, S, by rw [List.map_nil, forL, if_pos (hS _ _ _ hI)], hI⟩
  | x :: xs, sl, S, hI => by
    obtain ⟨sl1, S1, h1, h2⟩ := h x xs sl S hI
    rcases h2 with ⟨sl2, S2, h2, h3⟩ | ⟨t, S2, h2, h3⟩
    · have q := forL_ret e I P hS h xs sl2 S2 h3
      have e1 : forL src all g b ((x :: xs).map e) sl S = forL src all g b (xs.map e) sl2 S2 := by
        rw [List.map_cons, forL, if_pos (hS _ _ _ hI), h1]
        rcases h2 with h2 | h2 <;> simp only [h2]
      rw [e1]; exact q
    · refine .inr ⟨t, S2, ?_, h3⟩
      rw [List.map_cons, forL, if_pos (hS _ _ _ hI), h1]
      simp only [h2]
theorem while_inv {c : DB} {b : DS} (I : Nat → Sl → Sto → Prop) (P : Sl → Sto → Prop)
    (h : ∀ m sl S, I m sl S → (∃ S1 m' sl2 S2, c sl S = .ok true S1 ∧ m' < m ∧ (b sl S1 = .nx sl2 S2 ∨ b sl S1 = .ct sl2 S2) ∧ I m' sl2 S2) ∨ ∃ S1, c sl S = .ok false S1 ∧ P sl S1) : ∀ (n m : Nat) (sl : Sl) (S : Sto), I m sl S → m < n → ∃ sl' S', whileN c b n sl S = .nx sl' S' ∧ P sl' S'
  | 0, m, sl, S, _, hm => by omega
  | n + 1, m, sl, S, hI, hm => by
    rcases h m sl S hI with ⟨S1, m', sl2, S2, h1, h2, h3, h4⟩ | ⟨S1, h1, h2⟩
    · obtain ⟨sl', S', q1, q2⟩ := while_inv I P h n m' sl2 S2 h4 (by omega)
      refine ⟨sl', S', ?_, q2⟩
      rw [whileN, h1]
      simp only [RB.toS_ok, if_true]
      rcases h3 with h3 | h3 <;> (simp only [h3]; exact q1)
    · refine ⟨sl, S1, ?_, h2⟩
      rw [whileN, h1]
      simp
/-- .., or out of it by a return -/
theorem while_ret {c : DB} {b : DS} (I : Nat → Sl → Sto → Prop) (P : Sl → Sto → Prop) (R : T → Sto → Prop)
    (h : ∀ m sl S, I m sl S → (∃ S1, c sl S = .ok true S1 ∧ ((∃ m' sl2 S2, m' < m ∧ (b sl S1 = .nx sl2 S2 ∨ b sl S1 = .ct sl2 S2) ∧ I m' sl2 S2) ∨ ∃ t S2, b sl S1 = .rt t S2 ∧ R t S2)) ∨ ∃ S1, c sl S = .ok false S1 ∧ P sl S1) : ∀ (n m : Nat) (sl : Sl) (S : Sto), I m sl S → m < n →
      (∃ sl' S', whileN c b n sl S = .nx sl' S' ∧ P sl' S') ∨ ∃ t S', whileN c b n sl S = .rt t S' ∧ R t S'
  | 0, m, sl, S, _, hm => by omega
  | n + 1, m, sl, S, hI, hm => by
    rcases h m sl S hI with ⟨S1, h1, ⟨m', sl2, S2, h2, h3, h4⟩ | ⟨t, S2, h2, h3⟩⟩ | ⟨S1, h1, h2⟩
    · have e1 : whileN c b (n + 1) sl S = whileN c b n sl2 S2 := by
        rw [whileN, h1]
        simp only [RB.toS_ok, if_true]
        rcases h3 with h3 | h3 <;> simp only [h3]
      rw [e1]
      exact while_ret I P R h n m' sl2 S2 h4 (by omega)
    · refine .inr ⟨t, S2, ?_, h3⟩
      rw [whileN, h1]
      simp only [RB.toS_ok, if_true, h2]
    · refine .inl ⟨sl, S1, ?_, h2⟩
      rw [whileN, h1]
      simp
theorem dWhile_eq (c : DB) (b : DS) (sl : Sl) (S : Sto) : dWhile c b sl S = whileN c b FUEL sl S := rfl

/-! ### sources -/
theorem dIt_eq {d : DE} {sl : Sl} {S S1 : Sto} {t : T} (h : d sl S = .ok t S1) {src : Option Nat} {ts : List T} (h2 : itOf S1 (fz t) = some (src, ts)) : dIt d sl S = .ok src ts S1 := by
  unfold dIt; rw [h]; simp only [h2]
theorem dRng1_eq {d : DA} {sl : Sl} {S S1 : Sto} {n : Nat} (h : d sl S = .ok [.int n] S1) (hn : n ≤ 2 ^ 60) : dRng1 d sl S = .ok none ((List.range n).map fun k => T.int (k : Nat)) S1 := by
  unfold dRng1; rw [h]
  simp only
  rw [if_pos (by omega)]
  unfold upto
  simp
@[simp] theorem still_none {ts : List T} {S : Sto} : Still none ts S := trivial

/-! ### more readings -/
section
variable {t v : T} {S : Sto} {sl : Sl} {ts : List T} {i : Int} {k : Nat}
@[simp] theorem RE.m_int : (RE.ok (.int i) S).m = .ok (.int i) S := id rfl
@[simp] theorem RE.m_ref : (RE.ok (.ref k) S).m = .ok (.ref k) S := id rfl
@[simp] theorem fNeg_int : fNeg (.int i) S = .ok (.int (-i)) S := id rfl
def RE.g (r : RE) (f : T → Sto → Option (Sl × Sto)) : Option (Sl × Sto) := match r with
  | .ok t S => f t S
  | _ => none
@[simp] theorem RE.g_ok (f : T → Sto → Option (Sl × Sto)) : (RE.ok t S).g f = f t S := id rfl
def putR (o : Option Sto) (sl : Sl) : Option (Sl × Sto) := match o with
  | some S3 => some (sl, S3)
  | none => none
@[simp] theorem putR_some : putR (some S) sl = some (sl, S) := id rfl
@[simp] theorem gSubD_eq (d1 d2 : DE) : gSubD d1 d2 t sl S = (d1 sl S).g fun o S1 => (d2 sl S1).g fun j S2 => putR (dput S2 (fz o) (fz j) t) sl := by
  unfold gSubD RE.g putR
  cases d1 sl S with
  | ok o S1 =>
    simp only <;> (cases d2 sl S1 with
    | ok j S2 => simp only <;> (cases dput S2 (fz o) (fz j) t <;> rfl)
    | _ => rfl)
  | _ => rfl
theorem atI_n {α : Type} {xs : List α} {n : Nat} : atI xs (n : Int) = xs[n]? := by
  unfold atI ixN
  rw [if_pos (by omega)]
  by_cases h : n < xs.length
  · rw [if_pos (by omega)]; simp
  · rw [if_neg (by omega)]; simp; omega
@[simp] theorem atI_0 {α : Type} {xs : List α} : atI xs 0 = xs[0]? := atI_n (n := 0)
@[simp] theorem atI_1 {α : Type} {xs : List α} : atI xs 1 = xs[1]? := atI_n (n := 1)
@[simp] theorem atI_2 {α : Type} {xs : List α} : atI xs 2 = xs[2]? := atI_n (n := 2)
@[simp] theorem atI_3 {α : Type} {xs : List α} : atI xs 3 = xs[3]? := atI_n (n := 3)
@[simp] theorem atI_4 {α : Type} {xs : List α} : atI xs 4 = xs[4]? := atI_n (n := 4)
@[simp] theorem atI_m1 {α : Type} {xs : List α} : atI xs (-1) = xs.getLast? := by
  unfold atI ixN
  rw [if_neg (by omega)]
  cases xs with
  | nil => rfl
  | cons x xs =>
    rw [if_pos (by rw [List.length_cons]; omega)]
    have : ((-1 : Int) + ((x :: xs).length : Nat)).toNat = (x :: xs).length - 1 := by omega
    simp only [Option.bind_some, this]
    rw [List.getLast?_eq_getElem?]
theorem ixN_nat {n m : Nat} (h : m < n) : ixN n (m : Int) = some m := by
  unfold ixN
  rw [if_pos (by omega), if_pos (by omega)]; simp
theorem ixN_m1 {n : Nat} (h : 0 < n) : ixN n (-1) = some (n - 1) := by
  unfold ixN
  rw [if_neg (by omega), if_pos (by omega)]
  congr 1; omega
theorem dput_ref {j : Nat} (h : S[k]? = some (.lst ts)) (hj : ixN ts.length i = some j) : dput S (.ref k) (.int i) v = some (S.set k (.lst (ts.set j v))) := by
  unfold dput
  simp only [h, hj]
theorem dput_r0 {t0 : T} (h : S[k]? = some (.lst (t0 :: ts))) : dput S (.ref k) (.int 0) v = some (S.set k (.lst (v :: ts))) := dput_ref (i := 0) (j := 0) h (ixN_nat (m := 0) (by simp))
theorem dput_rm1 {t0 : T} (h : S[k]? = some (.lst (ts ++ [t0]))) : dput S (.ref k) (.int (-1)) v = some (S.set k (.lst (ts ++ [v]))) := by
  rw [dput_ref h (ixN_m1 (by simp))]
  simp
theorem fPop_ref (h : S[k]? = some (.lst ts)) (ht : ts.getLast? = some t) : fPop (.ref k) [] S = .ok t (S.set k (.lst ts.dropLast)) := by
  unfold fPop
  rw [List.getLast?_eq_getElem?] at ht
  simp only [h, ht]
end
@[simp] theorem szv : sizeLine = 16777216 := by
  have h := PySem.sizeLine_eq
  generalize sizeLine = z at h ⊢
  omega

/-! ### the store's last list -/
section
variable {S : Sto} {acc ts : List T} {o o' : MO} {y t : T} {i : Int}
@[simp] theorem top_get : (S ++ [o])[S.length]? = some o := by simp
@[simp] theorem top_set : List.set (S ++ [o]) S.length o' = S ++ [o'] := by simp
@[simp] theorem mTy_top : mTy (S ++ [.lst acc]) (.ref S.length) = some "list" := mTy_ref top_get
@[simp] theorem fAppend_top : fAppend (.ref S.length) [y] (S ++ [.lst acc]) = if acc.length < sizeLine then .ok .non (S ++ [.lst (acc ++ [y])]) else .bad := by rw [fAppend_ref top_get, top_set]
@[simp] theorem fTuple_top : fTuple [.ref S.length] (S ++ [.lst acc]) = .ok (.tup acc) (S ++ [.lst acc]) := fTuple_ref top_get
@[simp] theorem fLen_top : fLen [.ref S.length] (S ++ [.lst acc]) = .ok (.int acc.length) (S ++ [.lst acc]) := fLen_ref top_get
@[simp] theorem fIx_top : fIx (.ref S.length) (.int i) (S ++ [.lst acc]) = ixR (atI acc i) (S ++ [.lst acc]) := fIx_ref top_get
@[simp] theorem lstOf_top : lstOf (S ++ [.lst acc]) (.ref S.length) = some acc := lstOf_ref top_get
@[simp] theorem seqOf_top : seqOf (S ++ [.lst acc]) (.ref S.length) = some acc := seqOf_ref top_get
@[simp] theorem fPop_top : fPop (.ref S.length) [] (S ++ [.lst (acc ++ [t])]) = .ok t (S ++ [.lst acc]) := by
  rw [fPop_ref top_get (t := t) (by simp), top_set]
  simp
theorem gcT_top (h : T.lts S.length acc = true) : gcT S (.ref S.length) (S ++ [.lst acc]) = .ok (.nlst acc) S := gcT_ref (Nat.le_refl _) top_get h
/-- a loop that makes the last list longer -/
theorem for_app {α : Type} {src : Option Nat} {all : List T} {g : DG} {b : DS} (e : α → T) (f : α → List T) (P : Sl → Prop) (m N : Nat) (hS : ∀ a, Still src all (S ++ [.lst a])) : ∀ (xs : List α) (acc : List T) (sl : Sl), (∀ x ∈ xs, (f x).length ≤ m) →
    (∀ x ∈ xs, ∀ acc sl, P sl → acc.length ≤ N → ∃ sl1 S1 sl2, g (e x) sl (S ++ [.lst acc]) = some (sl1, S1) ∧ (b sl1 S1 = .nx sl2 (S ++ [.lst (acc ++ f x)]) ∨ b sl1 S1 = .ct sl2 (S ++ [.lst (acc ++ f x)])) ∧ P sl2) → acc.length + xs.length * m ≤ N → P sl →
    ∃ sl', forL src all g b (xs.map e) sl (S ++ [.lst acc]) = .nx sl' (S ++ [.lst (acc ++ xs.flatMap f)]) ∧ P sl'
  | [], acc, sl, _, _, _, hP => ⟨sl, by rw [List.map_nil, forL, if_pos (hS _)]; simp, hP⟩
  | x :: xs, acc, sl, hm, h, hl, hP => by
    rw [List.length_cons, Nat.succ_mul] at hl
    have hx := hm x List.mem_cons_self
    obtain ⟨sl1, S1, sl2, h1, h2, h3⟩ := h x List.mem_cons_self acc sl hP (by omega)
    obtain ⟨sl', q1, q2⟩ := for_app e f P m N hS xs (acc ++ f x) sl2 (fun z hz => hm z (List.mem_cons_of_mem _ hz)) (fun z hz => h z (List.mem_cons_of_mem _ hz)) (by rw [List.length_append]; omega) h3
    refine ⟨sl', ?_, q2⟩
    rw [List.map_cons, forL, if_pos (hS _), h1]
    rw [List.flatMap_cons, ← List.append_assoc, ← q1]
    rcases h2 with h2 | h2 <;> simp only [h2]
/-- a loop that changes a name's value only -/
theorem for_set {α β : Type} {src : Option Nat} {all : List T} {g : DG} {b : DS} {S : Sto} (e : α → T) (hS : Still src all S) (P : List α → Sl → Prop) (h : ∀ x xs sl, P (x :: xs) sl → ∃ sl1 S1 sl2, g (e x) sl S = some (sl1, S1) ∧ (b sl1 S1 = .nx sl2 S ∨ b sl1 S1 = .ct sl2 S) ∧ P xs sl2) : ∀ (xs : List α) (sl : Sl), P xs sl → ∃ sl', forL src all g b (xs.map e) sl S = .nx sl' S ∧ P [] sl'
  | [], sl, hP => ⟨sl, by rw [List.map_nil, forL, if_pos hS], hP⟩
  | x :: xs, sl, hP => by
    obtain ⟨sl1, S1, sl2, h1, h2, h3⟩ := h x xs sl hP
    obtain ⟨sl', q1, q2⟩ := for_set (β := β) e hS P h xs sl2 h3
    refine ⟨sl', ?_, q2⟩
    rw [List.map_cons, forL, if_pos hS, h1]
    rcases h2 with h2 | h2 <;> (simp only [h2]; exact q1)
end
end Dn

/-! except suites -/
namespace Dn
open PySem PySem.Spec L2
/-- the context of an except suite that holds the exception of pin p -/
abbrev DX.suite (X : Cx) (p : Pin) (oe : Obj) (pn : List (Addr × Obj)) : DX := ⟨X.suite p.a ((p.a, oe) :: pn), some p⟩
/-- e.f in the suite: the slot not written since -/
def dPin (i : Nat) (fs : Flds) (f : Str) : DE := fun sl S => match sl[i]? with
  | some none => match fs.lookup f with
    | some t => .ok t S
    | none => .bad
  | _ => .bad
theorem lookup_rep {K : PySem.W.Frag} {w : World} {H : Hp} {ρ av : List Addr} {f : Str} {t : T} : ∀ {vs : List (Str × V)} {fs : Flds}, RepKd K w H ρ av vs fs → fs.lookup f = some t → ∃ v, vs.lookup f = some v ∧ RepV K w H ρ av v t := by
  intro vs fs r
  induction r with
  | nil => intro h; cases h
  | cons h r ih =>
    rename_i p q vs fs
    obtain ⟨k, v⟩ := p
    obtain ⟨k', t'⟩ := q
    obtain ⟨e, rv⟩ := h
    simp only at e rv
    subst e
    intro h
    simp only [List.lookup] at h ⊢
    split at h
    · cases h; exact ⟨v, rfl, rv⟩
    · exact ih h
section
variable {X : Cx} {p : Pin} {oe : Obj} {pn : List (Addr × Obj)} {W : WX}
theorem le_pin {C : Addr} {e : Expr} {f : Str} {pos : Pos} {i : Nat} (hpi : p.i = i) (T : XfC X.K C) (hno : PySem.W.findIn X.K (.ref C) f = some none) (hz : Zc (.ref C) (some p.d) oe) (hf : ∃ us, oe.data = .fields us)
    (he : PE (X.suite p.a ((p.a, oe) :: pn)) e (tVar i)) (hb : attributeBase e f X.env (eval e X.env) = eval e X.env := by rfl) : LE (DX.suite X p oe pn) W (.Attribute e f pos) (dPin i p.fs f) := by
  subst hpi
  exact (pe_xf (cls := .ref C) (d := some p.d) T hno hz hf he hb).imp fun σ H Q ⟨ρ, av, sl, S, hs, hh, g⟩ => by
    unfold dPin at g
    obtain ⟨h1, h2, h3, h4, h5⟩ := hh.pin p rfl
    split at g
    · rename_i q1
      split at g
      · rename_i t q2
        obtain ⟨v, hv, rv⟩ := lookup_rep h4 q2
        exact ⟨.ref p.a, h5 q1, rfl, rfl, p.d, p.vs, v, rfl, h1, hv, g.now hs rv⟩
      · exact g.elim
    · exact g.elim
end
end Dn

/-! try with clauses of both kinds: with a name, without one -/
namespace Dn
open PySem PySem.Spec PyProof.Rows L2
abbrev Cl := Value × Option Nat × (Addr → Value → Option Addr → TS)
/-- a suite's ends, the clause's name being taken away behind it -/
def wiped (i : Nat) (D : Ends) : Ends := { nx := fun τ G => D.nx (τ.set i none) G, rt := D.rt, bk := fun τ G => D.bk (τ.set i none) G, ct := fun τ G => D.ct (τ.set i none) G }
def clW (o : Option Nat) (ts : Addr → Value → Option Addr → TS) (D : Ends) (cls : Value) (d : Option Addr) (σ : L2.St) (H : Hp) (a : Addr) : Prop := match o with
  | none => ts a cls d D σ H
  | some i => ts a cls d (wiped i D) (σ.set i (some (.ref a))) H
def wMix (K : PySem.W.Frag) (W : WX) (D : Ends) : List Cl → WX
  | [] => W
  | p :: r => fun cls d σ H => ∃ b, PySem.W.exmOne K cls p.1 = some b ∧ (b = true → ∀ a, H a = none → clW p.2.1 p.2.2 D cls d σ H a) ∧ (b = false → wMix K W D r cls d σ H)
def SuOk (X : Cx) (suite : List Stmt) (ts : Addr → Value → Option Addr → TS) : Prop :=
  ∀ (a : Addr) (ob : Obj) (cls : Value) (d : Option Addr) (ps : List (Addr × Obj)), L2N.Zn cls d ob → (∃ us, ob.data = .fields us) → PSs (X.suite a ((a, ob) :: ps)) suite (ts a cls d)
inductive HdsMix (X : Cx) : List ExceptHandler → List Cl → Prop
  | nil : HdsMix X [] []
  | one {x : Str} {c : Value} {ts : Addr → Value → Option Addr → TS} {b0 : Stmt} {bs : List Stmt} {p1 p2 : Pos} {hs : List ExceptHandler} {l : List Cl} (hc : Names X x c) (h : SuOk X (b0 :: bs) ts) (r : HdsMix X hs l) :
      HdsMix X (.ExceptHandler (some (.Name x p1)) none (b0 :: bs) p2 :: hs) ((c, none, ts) :: l)
  | as_ {x n : Str} {i : Nat} {c : Value} {ts : Addr → Value → Option Addr → TS} {b0 : Stmt} {bs : List Stmt} {p1 p2 : Pos} {hs : List ExceptHandler} {l : List Cl} (hc : Names X x c) (hi : X.N[i]? = some n) (hl : X.env.kindOf n = some .local)
      (h : SuOk X (b0 :: bs) ts) (r : HdsMix X hs l) : HdsMix X (.ExceptHandler (some (.Name x p1)) (some n) (b0 :: bs) p2 :: hs) ((c, some i, ts) :: l)
section
variable {X : Cx} {pins : List (Addr × Obj)} {τ : L2.St} {G : Hp} {s : Shared} {a : Addr} {B : Heap}
/-- the clause's class is found where the exception is handled -/
theorem names_at {x : Str} {c : Value} {ob : Obj} {ps : List (Addr × Obj)} {p1 : Pos} {R : Value → Shared → Prop} {F : Value → Shared → Prop} (I : Inv (X.suite a ((a, ob) :: ps)) [] τ G s) (hc : Names X x c) (r : R c s) :
    wpAny (model X.prog X.w) (X.A.mark (some (.ref a))) (eval (.Name x p1) X.env) R F s := by
  obtain ⟨g1, g2, g3⟩ := hc
  rcases g3 with g3 | ⟨g3, g4, g5⟩
  · exact ld_glob (X := X.suite a ((a, ob) :: ps)) I g1 g3 r g2
  · exact ld_blt (X := X.suite a ((a, ob) :: ps)) I g1 g3 g4 r g5 g2
/-- an exception on the ground is no frame -/
theorem no_frame {ob : Obj} {us : Array Value} {hp : Heap} (hf : X.env.frame = some X.env.locals) (ff : hp.FunFrames B (X.env :: X.outer)) (e : hp.get? a = some ob) (dd : ob.data = .fields us) : a ≠ X.env.locals ∧ a ∉ X.fs := by
  have no : a ∉ frs (X.env :: X.outer) := fun m => by
    obtain ⟨_, o2, e2, n2⟩ := ff.mem m
    have : ob = o2 := Option.some.inj (e.symm.trans e2)
    subst this
    exact n2 _ dd
  refine ⟨fun z => no (List.mem_filterMap.mpr ⟨_, List.mem_cons_self, hf.trans (by rw [z])⟩), fun m => ?_⟩
  obtain ⟨f, m1, m2⟩ := List.mem_filterMap.mp m
  exact no (List.mem_filterMap.mpr ⟨f, List.mem_cons_of_mem _ m1, m2⟩)
theorem sp_unsuite {D : Ends} {ob : Obj} {fl : Flow} {s6 : Shared} (ok : X.Ok) (q : SP (X.suite a ((a, ob) :: (X.pn ++ pins))) [] D fl s6) : SP X pins D fl s6 := by
  cases fl with
  | ret u => obtain ⟨v, τ6, G6, J, r, q⟩ := q; exact ⟨v, τ6, G6, J.unsuite ok, r, q⟩
  | next => obtain ⟨τ6, G6, J, q⟩ := q; exact ⟨τ6, G6, J.unsuite ok, q⟩
  | brk => obtain ⟨τ6, G6, J, q⟩ := q; exact ⟨τ6, G6, J.unsuite ok, q⟩
  | cont => obtain ⟨τ6, G6, J, q⟩ := q; exact ⟨τ6, G6, J.unsuite ok, q⟩
theorem sp_ofTry {D : Ends} {xe : Value → Shared → Prop} {fl : Flow} {s6 : Shared} (ok : X.Ok) (q : SP (X.tr (X.pn ++ pins) xe) [] D fl s6) : SP X pins D fl s6 := by
  cases fl with
  | ret u => obtain ⟨v, τ6, G6, J, r, q⟩ := q; exact ⟨v, τ6, G6, J.ofTry ok, r, q⟩
  | next => obtain ⟨τ6, G6, J, q⟩ := q; exact ⟨τ6, G6, J.ofTry ok, q⟩
  | brk => obtain ⟨τ6, G6, J, q⟩ := q; exact ⟨τ6, G6, J.ofTry ok, q⟩
  | cont => obtain ⟨τ6, G6, J, q⟩ := q; exact ⟨τ6, G6, J.ofTry ok, q⟩
end
section
variable {X : Cx} {body : List Stmt} {h0 : ExceptHandler} {hds : List ExceptHandler} {l : List Cl} {pos : Pos} {tb : WX → TS} {W : WX}
theorem ps_try_mix (st : X.stack = X.env :: X.outer) (hf : X.env.frame = some X.env.locals) (hN : X.N.Nodup) (tk : L2N.Takes X W)
    (hb : ∀ (V : WX) (ps : List (Addr × Obj)) (xe : Value → Shared → Prop), L2N.Takes (X.tr ps xe) V → PassesOwn (model X.prog X.w) X.A X.env xe → PSs (X.tr ps xe) body (tb V))
    (hm : HdsMix X (h0 :: hds) l) : PS X (.Try body (h0 :: hds) [] [] pos) (fun D σ H => tb (wMix X.K W D l) D σ H) := ⟨fun pins s σ H D I h => by
  have ok := I.ok
  have fr : X.A.frames = some (X.env :: X.outer) := ok.frames.trans (by rw [st])
  let back : Value → Shared → Prop := fun e s2 => wpAny (model X.prog X.w) X.A (noteFrame e X.env) (fun _ s3 => wpAny (model X.prog X.w) X.A (setFlight e none) (fun _ s4 => wpAny (model X.prog X.w) X.A (handleBy e X.env (h0 :: hds)) (SP X pins D) X.xe s4) X.xe s3) X.xe s2
  have taken : L2N.Takes (X.tr (X.pn ++ pins) back) (wMix X.K W D l) := fun u s2 xx => by
    obtain ⟨a, B, sI, pins2, τ, G, cls, d, rfl, J2, nb, up, sky, na, os, ag, w⟩ := xx
    have J : Inv X pins τ G sI := J2.ofTry ok
    rw [show (X.tr (X.pn ++ pins) back).stack = X.env :: X.outer from st] at sky
    refine L2N.Sky.land L2N.Zn.steady fr hf sky fun h3 fl3 up3 => ?_
    have J3 : Inv X pins τ G { s2 with heap := h3 } := J.landed nb fl3.1 (up.trans up3) os ag
    obtain ⟨o3, us3, e3, z3, d3⟩ := fl3.there
    have nn := no_frame (X := X) hf fl3.2.2.1 e3 d3
    have S3 := J3.suite e3 d3 na nn.1 nn.2
    have LT : PySem.W.Looks (model X.prog X.w) h3 (typeOf (.ref a)) cls := fun A Q E s k q => wpAny_typeOf_ref (k _ _ e3) (by rw [z3.1]; exact q)
    have walk : ∀ {hs : List ExceptHandler} {m : List Cl}, HdsMix X hs m → wMix X.K W D m cls d τ G → wpAny (model X.prog X.w) X.A (handleBy (.ref a) X.env hs) (SP X pins D) X.xe { s2 with heap := h3 } := by
      intro hs m k
      induction k with
      | nil =>
        intro w
        obtain ⟨_, _, _, o5, us5, tb5, _, _, e5, _, d5, f5, _⟩ := id fl3
        refine wpAny_handleBy_nil ?_
        unfold PySem.passOn
        refine wpAny_bind (wpAny_field e5 d5 f5 ?_)
        rw [if_neg (by simp : ¬ ((Value.ref tb5 == Value.none) = true))]
        have out : wpAny (model X.prog X.w) X.A (setFlight (.ref a) X.env.frame) (fun _ s5 => wpAny (model X.prog X.w) X.A (throw (.ref a) : Sem Flow) (SP X pins D) X.xe s5) X.xe { s2 with heap := h3 } := by
          rw [hf]
          exact HandSPX.setFlight_upZ fl3 fun h6 held up6 => wpAny_throw (tk _ _ ⟨a, B, sI, pins, τ, G, cls, d, rfl, J, nb, (up.trans up3).trans up6, .inr (.inr (by rw [st]; exact held)), na, os, ag, w⟩)
        first
          | exact wpAny_bind out
          | exact wpAny_bind (wpAny_pure (wpAny_bind out))
      | @one x c ts b0 bs p1 p2 hs2 l2 hc hsu _ ih =>
        intro ⟨b, e, yes, no⟩
        refine wpAny_handleBy_cons (codeAny_handlers_test (names_at S3 hc ((PySem.W.exm_one (M := model X.prog X.w) J3.kIn LT e).here ?_))) (fun q => nomatch q)
        cases b with
        | false => exact ih (no rfl)
        | true =>
          refine codeAny_handlers_suite (HandSPX.lands_againZ fl3 fun h4 fl4 up4 => ?_)
          have J4 : Inv X pins τ G { s2 with heap := h4 } := J.landed nb fl4.1 ((up.trans up3).trans up4) os ag
          obtain ⟨o4, us4, e4, z4, d4⟩ := fl4.there
          exact wpAny_mono ((hsu a o4 cls d (X.pn ++ pins) z4 ⟨_, d4⟩).run [] _ _ G _ (J4.suite e4 d4 na nn.1 nn.2) (yes rfl a na)) (fun fl s6 q => sp_unsuite ok q) fun _ _ z => z.elim
      | @as_ x n i c ts b0 bs p1 p2 hs2 l2 hc hi hl hsu _ ih =>
        intro ⟨b, e, yes, no⟩
        refine wpAny_handleBy_cons (codeAny_handlers_test (names_at S3 hc ((PySem.W.exm_one (M := model X.prog X.w) J3.kIn LT e).here ?_))) (fun q => nomatch q)
        cases b with
        | false => exact ih (no rfl)
        | true =>
          refine codeAny_handlers_suite_as (HandSPX.lands_againZ fl3 fun h4 fl4 up4 => ?_)
          have J4 : Inv X pins τ G { s2 with heap := h4 } := J.landed nb fl4.1 ((up.trans up3).trans up4) os ag
          obtain ⟨o4, us4, e4, z4, d4⟩ := fl4.there
          refine store_ok (X := X.suite a ((a, o4) :: (X.pn ++ pins))) (v := .ref a) (J4.suite e4 d4 na nn.1 nn.2) hN hi (.inl hl) rfl (fun s5 S5 => ?_) (.inr hl)
          refine wpAny_mono ((hsu a o4 cls d (X.pn ++ pins) z4 ⟨_, d4⟩).run [] s5 _ G _ S5 (yes rfl a na)) (fun fl s6 q => ?_) fun _ _ z => z.elim
          have q2 : SP X pins (wiped i D) fl s6 := sp_unsuite ok q
          cases fl with
          | ret u => obtain ⟨v, τ6, G6, J6, r6, q6⟩ := q2; exact gone_ok J6 hN hi hl fun s7 J7 => ⟨v, _, G6, J7, r6, q6⟩
          | next => obtain ⟨τ6, G6, J6, q6⟩ := q2; exact gone_ok J6 hN hi hl fun s7 J7 => ⟨_, G6, J7, q6⟩
          | brk => obtain ⟨τ6, G6, J6, q6⟩ := q2; exact gone_ok J6 hN hi hl fun s7 J7 => ⟨_, G6, J7, q6⟩
          | cont => obtain ⟨τ6, G6, J6, q6⟩ := q2; exact gone_ok J6 hN hi hl fun s7 J7 => ⟨_, G6, J7, q6⟩
    exact walk hm w
  refine wpAny_Try_except (wpAny_mono ((hb (wMix X.K W D l) (X.pn ++ pins) back taken PassesOwn.looking).run [] s σ H D (I.toTry _) h) (fun fl s1 q => ?_) fun e s1 q => q)
  have q2 : SP X pins D fl s1 := sp_ofTry ok q
  cases fl with
  | next => exact wpAny_execs_nil q2
  | ret u => exact q2
  | brk => exact q2
  | cont => exact q2⟩
end
end Dn

/-! the reading of try -/
namespace Dn
open PySem PySem.Spec PyProof.Rows L2
abbrev WNo : WX := fun _ _ _ _ => False
def un (o : Option Nat) (sl : Sl) : Sl := match o with
  | none => sl
  | some i => sl.set i none
/-- a suite's result, seen from outside -/
def RS.inSuite (o : Option Nat) : RS → RS
  | .nx sl S => .nx (un o sl) S
  | .bk sl S => .bk (un o sl) S
  | .ct sl S => .ct (un o sl) S
  | .rt t S => .rt t S
  | _ => .bad
/-- a clause: its name's slot, the classes that it takes, its suite -/
abbrev ClD := Option Nat × List (Str × Bool) × (Str → Flds → DS)
def dCls (c : Str) (fs : Flds) (sl : Sl) (S : Sto) : List ClD → RS
  | [] => .exc c fs sl S
  | p :: r => match p.2.1.lookup c with
    | some true => (p.2.2 c fs (un p.1 sl) S).inSuite p.1
    | some false => dCls c fs sl S r
    | none => .bad
def dTry (d : DS) (l : List ClD) : DS := fun sl S => match d sl S with
  | .exc c fs sl1 S1 => dCls c fs sl1 S1 l
  | r => r
/-- the classes at hand, as a clause's class takes them or not; the fields fs can be read of those taken -/
def HdX (K : PySem.W.Frag) (mg : Str → Option Value) (x : Str) (m : List (Str × Bool)) (fs : List Str) : Prop :=
  ∃ c, mg x = some c ∧ ∀ k b C, m.lookup k = some b → mg k = some (.ref C) → PySem.W.exmOne K (.ref C) c = some b ∧ (b = true → XfC K C ∧ ∀ f ∈ fs, PySem.W.findIn K (.ref C) f = some none)
inductive HdsD (X : Cx) : List ExceptHandler → List ClD → Prop
  | nil : HdsD X [] []
  | one {x : Str} {flds : List Str} {m : List (Str × Bool)} {su : Str → Flds → DS} {b0 : Stmt} {bs : List Stmt} {p1 p2 : Pos} {hs : List ExceptHandler} {l : List ClD} (hg : Gl X x) (hdb : (x == ("__debug__" : Str)) = false) (hx : HdX X.K X.mg x m flds)
      (h : ∀ (k : Str) (fs : Flds) (C a d : Addr) (ob : Obj) (ps : List (Addr × Obj)), X.mg k = some (.ref C) → L2N.Zn (.ref C) (some d) ob → (∃ us, ob.data = .fields us) → LSs ⟨X.suite a ((a, ob) :: ps), none⟩ WNo (b0 :: bs) (su k fs))
      (r : HdsD X hs l) : HdsD X (.ExceptHandler (some (.Name x p1)) none (b0 :: bs) p2 :: hs) ((none, m, su) :: l)
  | as_ {x n : Str} {i : Nat} {flds : List Str} {m : List (Str × Bool)} {su : Str → Flds → DS} {b0 : Stmt} {bs : List Stmt} {p1 p2 : Pos} {hs : List ExceptHandler} {l : List ClD} (hg : Gl X x) (hdb : (x == ("__debug__" : Str)) = false) (hx : HdX X.K X.mg x m flds) (hi : X.N[i]? = some n) (hl : X.env.kindOf n = some .local)
      (h : ∀ (p : Pin) (C : Addr) (ob : Obj) (ps : List (Addr × Obj)), p.i = i → m.lookup p.c = some true → X.mg p.c = some (.ref C) → XfC X.K C → (∀ f ∈ flds, PySem.W.findIn X.K (.ref C) f = some none) → Zc (.ref C) (some p.d) ob → L2N.Zn (.ref C) (some p.d) ob → (∃ us, ob.data = .fields us) → LSs (DX.suite X p ob ps) WNo (b0 :: bs) (su p.c p.fs))
      (r : HdsD X hs l) : HdsD X (.ExceptHandler (some (.Name x p1)) (some n) (b0 :: bs) p2 :: hs) ((some i, m, su) :: l)
section
variable {K : PySem.W.Frag} {w : World} {H : Hp} {ρ av : List Addr}
theorem RepE.unpin {pn : Option Pin} {σ : L2.St} {sl : Sl} (i : Nat) (h : RepE K w pn H ρ av σ sl) : RepE K w none H ρ av (σ.set i none) (sl.set i none) := by
  refine ⟨by simp [h.len], fun j t e => ?_, fun _ z => nomatch z⟩
  by_cases q : i = j
  · subst q
    by_cases z : i < sl.length
    · rw [List.getElem?_set_self z] at e; cases e
    · rw [List.getElem?_eq_none (by simpa using z)] at e; cases e
  · rw [List.getElem?_set_ne q] at e
    obtain ⟨v, h1, h2⟩ := h.at_ j t e
    exact ⟨v, by rw [List.getElem?_set_ne q]; exact h1, h2⟩
theorem RepE.topin {σ : L2.St} {sl : Sl} {p : Pin} (h : RepE K w none H ρ av σ sl) (h1 : H p.d = some (.xd p.vs)) (h2 : p.d ∉ ρ) (h3 : p.d ∉ av) (h4 : RepKd K w H ρ av p.vs p.fs) : RepE K w (some p) H ρ av (σ.set p.i (some (.ref p.a))) (sl.set p.i none) := by
  refine ⟨by simp [h.len], fun j t e => ?_, fun q e => ?_⟩
  · by_cases q : p.i = j
    · subst q
      by_cases z : p.i < sl.length
      · rw [List.getElem?_set_self z] at e; cases e
      · rw [List.getElem?_eq_none (by simpa using z)] at e; cases e
    · rw [List.getElem?_set_ne q] at e
      obtain ⟨v, k1, k2⟩ := h.at_ j t e
      exact ⟨v, by rw [List.getElem?_set_ne q]; exact k1, k2⟩
  · cases e
    refine ⟨h1, h2, h3, h4, fun e => ?_⟩
    by_cases z : p.i < sl.length
    · exact List.getElem?_set_self (by rw [h.len]; exact z)
    · rw [List.getElem?_eq_none (by simpa using z)] at e; cases e
end
section
variable {X : Cx} {W : WX}
def Tells (X : Cx) (W : WX) (l : List ClD) (m : List Cl) : Prop := ∀ (σ : L2.St) (H : Hp) (ρ av : List Addr) (sl : Sl) (S : Sto) (D : Ends) (c : Str) (fs : Flds) (cls : Value) (dd : Option Addr), RepS X.K X.w H ρ av S → RepE X.K X.w none H ρ av σ sl →
  RepX X.K X.w H ρ av X.mg cls dd c fs → GoodS ⟨X, none⟩ W H ρ av σ.length D (dCls c fs sl S l) → wMix X.K W D m cls dd σ H
theorem HdsD.mix {hs : List ExceptHandler} {l : List ClD} (h : HdsD X hs l) : ∃ m, HdsMix X hs m ∧ Tells X W l m := by
  induction h with
  | nil =>
    refine ⟨[], .nil, fun σ H ρ av sl S D c fs cls dd hs he hx g => ?_⟩
    exact g cls dd σ H ρ (Ext.refl _ _) hs he rfl hx
  | @one x flds m su b0 bs p1 p2 hs2 l2 hg hdb hx0 h _ ih =>
    obtain ⟨m2, k1, k2⟩ := ih
    obtain ⟨c, hc0, hm⟩ := hx0
    have hc : Names X x c := ⟨hg, hdb, .inl hc0⟩
    refine ⟨(c, none, fun a cls d D σ H => ∃ C dd k fs, cls = .ref C ∧ d = some dd ∧ X.mg k = some (.ref C) ∧ liftS ⟨X, none⟩ WNo (su k fs) D σ H) :: m2, .one hc ?_ k1, ?_⟩
    · intro a ob cls d ps hz hd
      refine ⟨fun pins s σ H D I ⟨C, dd, k, fs, e1, e2, e3, e4⟩ => ?_⟩
      subst e1 e2
      exact (h k fs C a dd ob ps e3 hz hd).run pins s σ H D I e4
    · intro σ H ρ av sl S D k fs cls dd hs he hx g
      obtain ⟨C, x1, x2, d, vs, x3, x4, x5, x6, x7⟩ := id hx
      subst x2 x3
      unfold dCls at g
      dsimp only at g
      split at g
      · rename_i q
        refine ⟨true, (hm _ _ _ q x1).1, fun _ a na => ⟨C, d, k, fs, rfl, rfl, x1, ρ, av, sl, S, hs, he, ?_⟩, (fun z => nomatch z)⟩
        revert g
        rw [show un none sl = sl from rfl]
        cases su k fs sl S with
        | nx s2 S2 => exact id
        | bk s2 S2 => exact id
        | ct s2 S2 => exact id
        | rt t S2 => exact id
        | exc c2 f2 s2 S2 => exact fun z => z.elim
        | bad => exact fun z => z.elim
      · rename_i q
        exact ⟨false, (hm _ _ _ q x1).1, (fun z => nomatch z), fun _ => k2 σ H ρ av sl S D k fs _ _ hs he hx g⟩
      · exact g.elim
  | @as_ x n i flds m su b0 bs p1 p2 hs2 l2 hg hdb hx0 hi hl h _ ih =>
    obtain ⟨m2, k1, k2⟩ := ih
    obtain ⟨c, hc0, hm⟩ := hx0
    have hc : Names X x c := ⟨hg, hdb, .inl hc0⟩
    refine ⟨(c, some i, fun a cls d D σ H => ∃ (p : Pin) (C : Addr), p.i = i ∧ m.lookup p.c = some true ∧ p.a = a ∧ cls = .ref C ∧ d = some p.d ∧ X.mg p.c = some (.ref C) ∧ liftS ⟨X, some p⟩ WNo (su p.c p.fs) D σ H) :: m2, .as_ hc hi hl ?_ k1, ?_⟩
    · intro a ob cls d ps hz hd
      refine ⟨fun pins s σ H D I ⟨p, C, e0, el, e1, e2, e3, e4, e5⟩ => ?_⟩
      subst e1 e2 e3
      have z := (hm _ _ _ el e4).2 rfl
      exact (h p C ob ps e0 el e4 z.1 z.2 hz.zc hz hd).run pins s σ H D I e5
    · intro σ H ρ av sl S D k fs cls dd hs he hx g
      obtain ⟨C, x1, x2, d, vs, x3, x4, x5, x6, x7⟩ := id hx
      subst x2 x3
      unfold dCls at g
      dsimp only at g
      split at g
      · rename_i q
        refine ⟨true, (hm _ _ _ q x1).1, fun _ a na => ⟨⟨i, a, d, k, vs, fs⟩, C, rfl, q, rfl, rfl, rfl, x1, ρ, av, sl.set i none, S, hs, he.topin (p := ⟨i, a, d, k, vs, fs⟩) x4 x5 x6 x7, ?_⟩, (fun z => nomatch z)⟩
        revert g
        rw [show un (some i) sl = sl.set i none from rfl]
        dsimp only
        cases su k fs (sl.set i none) S with
        | nx s2 S2 => exact fun g σ' H' ρ' e s r hn => g (σ'.set i none) H' ρ' e s (r.unpin i) (by rw [List.length_set, hn, List.length_set])
        | bk s2 S2 => exact fun g σ' H' ρ' e s r hn => g (σ'.set i none) H' ρ' e s (r.unpin i) (by rw [List.length_set, hn, List.length_set])
        | ct s2 S2 => exact fun g σ' H' ρ' e s r hn => g (σ'.set i none) H' ρ' e s (r.unpin i) (by rw [List.length_set, hn, List.length_set])
        | rt t S2 => exact id
        | exc c2 f2 s2 S2 => exact fun z => z.elim
        | bad => exact fun z => z.elim
      · rename_i q
        exact ⟨false, (hm _ _ _ q x1).1, (fun z => nomatch z), fun _ => k2 σ H ρ av sl S D k fs _ _ hs he hx g⟩
      · exact g.elim
/-- try: body; except X as n: ..; except Y: .. -/
theorem ls_try {body : List Stmt} {h0 : ExceptHandler} {hds : List ExceptHandler} {l : List ClD} {pos : Pos} {d : DS} (st : X.stack = X.env :: X.outer) (hf : X.env.frame = some X.env.locals) (hN : X.N.Nodup) (tk : L2N.Takes X W)
    (hb : ∀ (V : WX) (ps : List (Addr × Obj)) (xe : Value → Shared → Prop), L2N.Takes (X.tr ps xe) V → PassesOwn (model X.prog X.w) X.A X.env xe → LSs ⟨X.tr ps xe, none⟩ V body d)
    (hh : HdsD X (h0 :: hds) l) : LS ⟨X, none⟩ W (.Try body (h0 :: hds) [] [] pos) (dTry d l) := by
  obtain ⟨m, k1, k2⟩ := hh.mix (W := W)
  refine (ps_try_mix (tb := fun V => liftS ⟨X, none⟩ V d) st hf hN tk hb k1).imp fun D σ H ⟨ρ, av, sl, S, hs, he, g⟩ => ⟨ρ, av, sl, S, hs, he, ?_⟩
  unfold dTry at g
  revert g
  cases d sl S with
  | exc c fs s1 S1 => exact fun g cls dd σ' H' ρ' e s r hn rx => k2 σ' H' ρ' av s1 S1 D c fs cls dd s r rx (by rw [hn]; exact GoodS.ext e g)
  | nx s1 S1 => exact id
  | bk s1 S1 => exact id
  | ct s1 S1 => exact id
  | rt t S1 => exact id
  | bad => exact id
end
end Dn

/-! raise X(e, ..), X's own __init__ storing its parameters -/
namespace Dn
open PySem PySem.Spec PyProof.Rows L2
/-- the stores of an __init__: a field, a parameter's place -/
def initT (K : PySem.W.Frag) : List (Str × Nat) → TS
  | [] => tNext
  | q :: r => tSeq (tOst K q.1 (tVar 0) (tVar q.2)) (initT K r)
def newFs (vs : List V) (r : List (Str × Nat)) : List (Str × V) := (r.map fun q => (q.1, vs.getD q.2 .non)).reverse
def spInit (C : Addr) (np : Nat) (r : List (Str × Nat)) : Sp := fun vs H Q _ => vs.length = np ∧ ∃ a, vs[0]? = some (.ref a) ∧ H a = some (exo a C none) ∧
  ∀ d H2, H d = none → d ≠ a → H2 a = some (exo a C (some d)) → H2 d = some (exd d (newFs vs r)) → (∀ b, b ≠ a → b ≠ d → H2 b = H b) → Q .non H2
theorem initT_on {K : PySem.W.Frag} {C a d : Addr} {vs : List V} {D : Ends} {σ : L2.St} (T : OexC K C) (h0 : σ[0]? = some (some (.ref a))) : ∀ (r : List (Str × Nat)) (fs : List (Str × V)) (H : Hp), (∀ q ∈ r, PySem.W.findIn K (.ref C) q.1 = some none) →
    (∀ q ∈ r, σ[q.2]? = some (some (vs.getD q.2 .non))) → fs.length + r.length ≤ 900 → H a = some (exo a C (some d)) → H d = some (exd d fs) → d ≠ a →
    (∀ H2, H2 a = some (exo a C (some d)) → H2 d = some (exd d (newFs vs r ++ fs)) → (∀ b, b ≠ a → b ≠ d → H2 b = H b) → D.nx σ H2) → initT K r D σ H
  | [], fs, H, _, _, _, ha, hd, _, h => h H ha hd fun _ _ _ => rfl
  | q :: r, fs, H, hn, hv, hl, ha, hd, ne, h => by
    refine ⟨_, hv q (List.mem_cons_self ..), _, h0, a, C, rfl, T, hn q (List.mem_cons_self ..), .inr ⟨d, fs, ha, hd, by simp only [List.length_cons] at hl; omega, ?_⟩⟩
    refine initT_on T h0 r ((q.1, vs.getD q.2 .non) :: fs) _ (fun p hp => hn p (List.mem_cons_of_mem _ hp)) (fun p hp => hv p (List.mem_cons_of_mem _ hp)) (by simp only [List.length_cons] at hl ⊢; omega) (by rw [upd_ne (Ne.symm ne)]; exact ha) (by rw [upd_same]) ne fun H2 k1 k2 k3 => ?_
    refine h H2 k1 (k2.trans ?_) fun b b1 b2 => (k3 b b1 b2).trans (upd_ne b2)
    simp [newFs]
theorem initT_start {K : PySem.W.Frag} {C a : Addr} {vs : List V} {D : Ends} {σ : L2.St} {q : Str × Nat} {r : List (Str × Nat)} {H : Hp} (T : OexC K C) (h0 : σ[0]? = some (some (.ref a))) (hn : ∀ p ∈ q :: r, PySem.W.findIn K (.ref C) p.1 = some none)
    (hv : ∀ p ∈ q :: r, σ[p.2]? = some (some (vs.getD p.2 .non))) (hl : r.length ≤ 800) (ha : H a = some (exo a C none))
    (h : ∀ d H2, H d = none → d ≠ a → H2 a = some (exo a C (some d)) → H2 d = some (exd d (newFs vs (q :: r))) → (∀ b, b ≠ a → b ≠ d → H2 b = H b) → D.nx σ H2) : initT K (q :: r) D σ H := by
  refine ⟨_, hv q (List.mem_cons_self ..), _, h0, a, C, rfl, T, hn q (List.mem_cons_self ..), .inl ⟨ha, fun d nd ne => ?_⟩⟩
  refine initT_on T h0 r [(q.1, vs.getD q.2 .non)] _ (fun p hp => hn p (List.mem_cons_of_mem _ hp)) (fun p hp => hv p (List.mem_cons_of_mem _ hp)) (by simp only [List.length_cons, List.length_nil]; omega) (by rw [upd_same]) (by rw [upd_ne ne, upd_same]) ne fun H2 k1 k2 k3 => ?_
  refine h d H2 nd ne k1 (k2.trans ?_) fun b b1 b2 => (k3 b b1 b2).trans ((upd_ne b1).trans (upd_ne b2))
  simp [newFs]
/-- THE RULE of such an __init__ -/
theorem init_ok {P : Program} {w : World} {K : PySem.W.Frag} {mg : Str → Option Value} {base : Heap} {x qual : Str} {params : Arguments} {body : List Stmt} {scope : Scope} {f C : Addr} {fd : FuncData} {N : List Str} {k : Nat} {q : Str × Nat} {r : List (Str × Nat)} (F : FunD K x qual params body scope [] [] f fd) (S : FnScope N N scope)
    (T : OexC K C) (hn : ∀ p ∈ q :: r, PySem.W.findIn K (.ref C) p.1 = some none) (hix : ∀ p ∈ q :: r, p.2 < N.length) (hl : r.length ≤ 800)
    (hb : ∀ (cdv : Value) (A : Around) (outer : List Env) (s : Shared) (H : Hp) (E : XK), PSs (cxOf (L2N.CX P w) P w K mg base N qual scope f cdv A outer s H E) body (initT K (q :: r))) : FnOk P w K mg base (L2N.CX P w) (k + 1) f fd N (spInit C N.length (q :: r)) := by
  refine F.ok S (fun vs H Q E h => h.1) (fun cdv A outer s H vs Q E hr h => ⟨_, hb cdv A outer s H E, ?_⟩)
  obtain ⟨h1, a, h2, h3, h4⟩ := h
  have at_ : ∀ j v, vs[j]? = some v → (L2.start N vs)[j]? = some (some v) := fun j v e => by
    unfold L2.start
    rw [List.getElem?_append_left (by rw [List.length_map]; exact (List.getElem?_eq_some_iff.mp e).1), List.getElem?_map, e]
    rfl
  refine initT_start T (at_ 0 _ h2) hn (fun p hp => at_ _ _ ?_) hl h3 h4
  have hj : p.2 < vs.length := by rw [h1]; exact hix p hp
  rw [List.getD_eq_getElem?_getD, List.getElem?_eq_getElem hj]
  rfl
section
variable {X : Cx} {e : Expr} {es : List Expr} {ta : TA} {p pos : Pos}
/-- X(e, ..) where nothing is handled: its context is None -/
theorem pmk_oexN {x : Str} {C fI : Addr} {k : Nat} {fd : FuncData} {ps : List Str} {sp : Sp} (T : OexC X.K C) (iC : PySem.W.findIn X.K (.ref C) "__init__" = some (some (.ref fI))) (tI : PySem.W.typeIn X.K (.ref fI) = some (.type "function"))
    (F1 : FnOk X.prog X.w X.K X.mg X.base (L2N.CX X.prog X.w) k fI fd ps sp) (hr : Room (k + 1) X.A) (hb : Binds X.K fd ps []) (hg : Gl X x) (hm : X.mg x = some (.ref C)) (ha : PA X (e :: es) ta)
    (hdb : (x == ("__debug__" : Str)) = false := by decide) (he : starEach (e :: es) X.env = (false, eval e X.env) :: starEach es X.env := by rfl) (hpl : (backTo pos (starEach es X.env)).any (·.1) = false := by rfl) :
    L2N.PMk X (.Call (.Name x p) (e :: es) [] pos) (tMkO C sp [] ta) := fun pins s σ H Q I h => by
  obtain ⟨_, _, _, _, bm, _, _, _, _, _, _, _, _, _, _, atC, vbm⟩ := T.cls
  refine wpAny_Call_Name_kw (ld_glob I hg hm (PySem.W.callWith_K (h₀ := X.base) I.ok.mod.kin T.kC (thn (ha.run pos pins s σ H _ I h) fun us s1 ⟨vs, G, J, r, lv, q⟩ => ⟨J.kIn, ?_⟩) he hpl) hdb)
  show wpAny _ _ (call (.ref C) us) _ _ _
  obtain ⟨hp, gs, dr, tk, os⟩ := s1
  have up : hp.objs.size ≤ hp.objs.size + 1 := Nat.le_succ _
  have q2 := q (hp.objs.size + 1) (J.hok.fresh up)
  rw [List.append_nil] at q2
  have seat : ((hp.push (PySem.W.kdv_tup us)).push (PySem.HandSPX.excO C hp.objs.size)).get? (hp.objs.size + 1) = some (PySem.HandSPX.excO C hp.objs.size) := by heap_get
  have stay : ∀ b o, hp.get? b = some o → ((hp.push (PySem.W.kdv_tup us)).push (PySem.HandSPX.excO C hp.objs.size)).get? b = some o := fun _ _ e => Heap.get?_push_of_some _ (Heap.get?_push_of_some _ e)
  have J2 := J.laid (t' := tk) (o := exo (hp.objs.size + 1) C none) stay up (exo_ok (P := X.prog) (w := X.w) seat)
  have r2 : Vals (V.ref (hp.objs.size + 1) :: vs) (Value.ref (hp.objs.size + 1) :: us) := .cons rfl r
  have len2 : (Value.ref (hp.objs.size + 1) :: us).length = ps.length := r2.length.symm.trans (F1.len _ _ _ _ q2)
  have b2 := hb _ (Value.ref (hp.objs.size + 1) :: us) J2.kIn (by rw [List.append_nil]; exact len2)
  rw [List.append_nil] at b2
  refine wpAny_call (PySem.HandSPX.call_own F.excBase_ValueError (fun Y => PySem.HandSPX.refsVE_contains Y bm vbm) (J.kIn _ _ atC) (PySem.W.looks_findIn J.kIn iC) (fun self => PySem.W.bind_fn J.kIn self tI) (by rw [← Paired.length r, sizeLine_eq]; omega)
    (codeAny_mono (F1.run _ X.stack _ _ ⟨Value.ref (hp.objs.size + 1) :: us, []⟩ (Value.ref (hp.objs.size + 1) :: us) _ _ (fun _ _ _ => False) (hr.make C us []) (J2.env0.make C us []) b2 r2 q2) fun res s2 hq => ?_))
  cases res with
  | error er => obtain ⟨_, _, _, _, _, _, _, _, _, _, _, _, z⟩ := hq; exact z.elim
  | ok fl =>
    cases fl with
    | next => exact hq.elim
    | brk => exact hq.elim
    | cont => exact hq.elim
    | ret u =>
      obtain ⟨v, G2, os2, bare2, un2, ok2, rv, ev, d, fs, ea, ed, nd, q3⟩ := hq
      subst ev
      obtain ⟨h2, g2, d2, t2, os3⟩ := s2
      obtain ⟨t0, B, K1, kB, nB, hoe, na⟩ := mk_end0 (d2 := d2) (t2 := t2) J up stay un2 ok2 os2 bare2 ea ed nd
      exact ⟨rv, hp.objs.size + 1, _, _, ⟨B, g2, d2, t2, os3⟩, _, .ref C, some d, rfl, K1, kB, nB, hoe, ⟨rfl, rfl, fun _ hv => by cases hv; rfl⟩, rfl, rfl, na, rfl, bare2, raises_own T.exC T.tyC, q3⟩
end
/-- what a def that raises x is told -/
def Mkr (P : Program) (w : World) (K : PySem.W.Frag) (mg : Str → Option Value) (base : Heap) (k : Nat) (x : Str) (np : Nat) (r : List (Str × Nat)) : Prop :=
  ∃ C fI fd ps, mg x = some (.ref C) ∧ OexC K C ∧ PySem.W.findIn K (.ref C) "__init__" = some (some (.ref fI)) ∧ PySem.W.typeIn K (.ref fI) = some (.type "function") ∧ FnOk P w K mg base (L2N.CX P w) k fI fd ps (spInit C np r) ∧ Binds K fd ps []
def dRaise (c : Str) (np : Nat) (r : List (Str × Nat)) (da : DA) : DS := fun sl S => match da sl S with
  | .ok ts S1 => if ts.length + 1 = np then .exc c ((r.map fun q => (q.1, (T.non :: ts).getD q.2 .non)).reverse) sl S1 else .bad
  | .exc c fs S1 => .exc c fs sl S1
  | .bad => .bad
section
variable {K : PySem.W.Frag} {w : World} {H : Hp} {ρ av : List Addr}
theorem RepKd.reverse {κ : Type} {vs : List (κ × V)} {ts : List (κ × T)} (r : RepKd K w H ρ av vs ts) : RepKd K w H ρ av vs.reverse ts.reverse := by
  have go : ∀ {vs : List (κ × V)} {ts : List (κ × T)}, RepKd K w H ρ av vs ts → ∀ {us : List (κ × V)} {qs : List (κ × T)}, RepKd K w H ρ av us qs → RepKd K w H ρ av (vs.reverseAux us) (ts.reverseAux qs) := by
    intro vs ts h
    induction h with
    | nil => exact fun s => s
    | cons r rs ih => exact fun s => ih (.cons r s)
  exact go r .nil
theorem newFs_rep {a : V} {vs : List V} {ts : List T} {np : Nat} (h : RepVs K w H ρ av vs ts) (hn : vs.length + 1 = np) : ∀ (r : List (Str × Nat)), (∀ q ∈ r, 0 < q.2 ∧ q.2 < np) → RepKd K w H ρ av (r.map fun q => (q.1, (a :: vs).getD q.2 .non)) (r.map fun q => (q.1, (T.non :: ts).getD q.2 .non))
  | [], _ => .nil
  | q :: r, k => by
    refine .cons ⟨rfl, ?_⟩ (newFs_rep h hn r fun p hp => k p (List.mem_cons_of_mem _ hp))
    obtain ⟨k1, k2⟩ := k q (List.mem_cons_self ..)
    obtain ⟨f, j⟩ := q
    cases j with
    | zero => exact absurd k1 (by simp)
    | succ j =>
      dsimp only
      simp only [List.getD_cons_succ]
      have hj : j < ts.length := by rw [← h.length]; simp only at k2; omega
      obtain ⟨v, hv, rv⟩ := h.get (List.getElem?_eq_getElem hj)
      rw [List.getD_eq_getElem?_getD, List.getD_eq_getElem?_getD, hv, List.getElem?_eq_getElem hj]
      exact rv
end
theorem ls_raise {X : DX} {W : WX} {k np : Nat} {x : Str} {r : List (Str × Nat)} {e : Expr} {es : List Expr} {da : DA} {p pos ps2 : Pos} (M : Mkr X.prog X.w X.K X.mg X.base k x np r) (hr : Room (k + 1) X.A) (hg : Gl X x) (hc : X.calm = true) (tk : L2N.Takes X W) (ha : LA X W (e :: es) da)
    (hnp : np ≤ 900) (hix : ∀ q ∈ r, 0 < q.2 ∧ q.2 < np) (hdb : (x == ("__debug__" : Str)) = false := by decide) (he : starEach (e :: es) X.env = (false, eval e X.env) :: starEach es X.env := by rfl) (hpl : (backTo pos (starEach es X.env)).any (·.1) = false := by rfl) :
    LS X W (.Raise (some (.Call (.Name x p) (e :: es) [] pos)) none ps2) (dRaise x np r da) := by
  obtain ⟨C, fI, fd, ps, hm, T, iC, tI, F, hb⟩ := M
  refine (L2N.ps_raise hc tk (pmk_oexN T iC tI F hr hb hg hm ha hdb he hpl)).imp fun D σ H ⟨ρ, av, sl, S, hs, hE, g⟩ => ⟨ρ, av, sl, S, hs, hE, ?_⟩
  unfold dRaise at g
  revert g
  cases da sl S with
  | exc c fs S1 => exact fun g cls dd H' ρ' e1 s1 rx => g cls dd σ H' ρ' e1 s1 (hE.ext e1) rfl rx
  | bad => exact fun g => g.elim
  | ok ts S1 =>
    intro g vs H1 ρ1 e1 s1 r1
    dsimp only at g
    split at g
    · rename_i hl
      have hlv : vs.length + 1 = np := by rw [r1.length]; exact hl
      refine ⟨by omega, fun a na => ⟨by rw [List.append_nil]; exact hlv, a, rfl, upd_same, fun d H2 nd ne k1 k2 k3 => ?_⟩⟩
      rw [upd_ne ne] at nd
      rw [List.append_nil] at k2
      refine ⟨rfl, d, _, k1, k2, nd, ?_⟩
      have hH : upd (del H2 a) d (.xd (newFs (.ref a :: vs) r)) = upd H1 d (.xd (newFs (.ref a :: vs) r)) := by
        funext b
        by_cases b1 : b = d
        · subst b1; rw [upd_same, upd_same]
        · rw [upd_ne b1, upd_ne b1]
          by_cases b2 : b = a
          · subst b2; rw [del_same, na]
          · rw [del_ne b2, k3 b b2 b1, upd_ne b2]
      rw [hH]
      have e2 := Ext.laid s1 nd (.xd (newFs (.ref a :: vs) r))
      refine g (.ref C) (some d) σ _ ρ1 (e1.trans e2) (s1.laid nd _) (hE.ext (e1.trans e2)) rfl ⟨C, hm, rfl, d, _, rfl, upd_same, fun z => ?_, fun z => ?_, ?_⟩
      · obtain ⟨u, hu, _⟩ := s1.there z
        rw [nd] at hu; cases hu
      · exact (s1.out d z).1 nd
      · exact ((newFs_rep r1 hlv r hix).reverse).ext e2
    · exact g.elim
end Dn

/-! the facts of own error classes, from the head -/
namespace Dn
open PySem PySem.Spec PyProof.Rows L2
theorem takes0N {X : Cx} : L2N.Takes X (fun _ _ _ _ => False) := fun _ _ ⟨_, _, _, _, _, _, _, _, _, _, _, _, _, _, _, _, z⟩ => z.elim
/-- a class that is raised: its __init__ is at fI, the fields fs are no names of the class -/
def oexB (K : PySem.W.Frag) (C fI : Addr) (fs : List Str) : Bool :=
  (match K.lookup C with
    | some ⟨.type "type", _, .cls cd, sl⟩ => (match cd.mro, sl.toList with
      | .ref C' :: bm, [_, _, _, _, some (.builtin n), _] => C' == C && (n == "ValueError.__new__" && (!cd.hasDel && (cd.hasDict && PySem.HandSPX.refsVE bm)))
      | _, _ => false)
    | _ => false) &&
  (decide (PySem.W.findIn K (.ref C) "__setattr__" = some (some (.builtin "object.__setattr__"))) && (decide (PySem.W.subIn K (.ref C) (.type "BaseException") = some true) && (decide (PySem.W.typeIn K (.ref C) = some (.type "type")) && (PySem.W.keepIn K (.ref C) &&
  (decide (PySem.W.findIn K (.ref C) "__init__" = some (some (.ref fI))) && (decide (PySem.W.typeIn K (.ref fI) = some (.type "function")) && fs.all fun f => decide (PySem.W.findIn K (.ref C) f = some none)))))))
theorem oexB_ok {K : PySem.W.Frag} {C fI : Addr} {fs : List Str} (h : oexB K C fI fs = true) : OexC K C ∧ PySem.W.findIn K (.ref C) "__init__" = some (some (.ref fI)) ∧ PySem.W.typeIn K (.ref fI) = some (.type "function") ∧ ∀ f ∈ fs, PySem.W.findIn K (.ref C) f = some none := by
  unfold oexB at h
  simp only [Bool.and_eq_true, decide_eq_true_eq, List.all_eq_true] at h
  obtain ⟨h0, h1, h2, h3, h4, h5, h6, h7⟩ := h
  refine ⟨⟨?_, h1, h2, h3, h4⟩, h5, h6, h7⟩
  split at h0
  · rename_i dd cd sl ho
    split at h0
    · rename_i C' bm k0 k1 k2 k3 n k5 hm hs
      simp only [Bool.and_eq_true, beq_iff_eq, Bool.not_eq_true'] at h0
      obtain ⟨rfl, rfl, hdel, hdict, hve⟩ := h0
      obtain ⟨nm, bs, mro, ns, qn, hd, sn, sub, ab, col, del⟩ := cd
      dsimp only at hm hdel hdict
      subst hm hdel hdict
      have hsl : sl = #[k0, k1, k2, k3, some (.builtin "ValueError.__new__"), k5] := by
        obtain ⟨l⟩ := sl
        simp only at hs
        rw [hs]
      subst hsl
      exact ⟨nm, qn, ns, bs, bm, sn, sub, ab, col, dd, k0, k1, k2, k3, k5, ho, hve⟩
    · cases h0
  · cases h0
/-- a class that an except clause names, over the classes that are raised -/
def hdB (K : PySem.W.Frag) (x : Str) (m : List (Str × Bool)) (fs : List Str) : Bool :=
  m.all fun p => decide (PySem.W.exmOne K (.ref (He.ga K p.1)) (.ref (He.ga K x)) = some p.2) && (!p.2 || (xfB K (He.ga K p.1) && fs.all fun f => decide (PySem.W.findIn K (.ref (He.ga K p.1)) f = some none)))
theorem lookup_mem {α : Type} {k : Str} {b : α} : ∀ {m : List (Str × α)}, m.lookup k = some b → (k, b) ∈ m
  | [], h => nomatch h
  | (q, c) :: m, h => by
    rw [List.lookup] at h
    split at h
    · rename_i e
      cases h
      rw [show k = q from by simpa using e]
      exact List.mem_cons_self ..
    · exact List.mem_cons_of_mem _ (lookup_mem h)
theorem hdx_of {K : PySem.W.Frag} {mg : Str → Option Value} {x : Str} {m : List (Str × Bool)} {fs : List Str} (hx : mg x = some (.ref (He.ga K x))) (hg : ∀ p ∈ m, mg p.1 = some (.ref (He.ga K p.1))) (h : hdB K x m fs = true) : HdX K mg x m fs := by
  refine ⟨_, hx, fun k b C hk hC => ?_⟩
  have hm := lookup_mem hk
  have e := hg _ hm
  dsimp only at e
  rw [hC] at e
  cases e
  unfold hdB at h
  have q := List.all_eq_true.mp h _ hm
  simp only [Bool.and_eq_true, decide_eq_true_eq, Bool.or_eq_true, Bool.not_eq_true', List.all_eq_true] at q
  refine ⟨q.1, fun hb => ?_⟩
  rcases q.2 with z | ⟨z1, z2⟩
  · rw [hb] at z; cases z
  · exact ⟨xfB_ok z1, z2⟩
theorem mkr_of {P : Program} {w : World} {K : PySem.W.Frag} {mg : Str → Option Value} {base : Heap} {x : Str} {d : He.DefD} {fd : FuncData} {N flds : List Str} {k np : Nat} {q : Str × Nat} {r : List (Str × Nat)} (hm : mg x = some (.ref (He.ga K x))) (ho : oexB K (He.ga K x) (He.ma K (He.ga K x) "__init__") flds = true)
    (F : FunD K d.name d.qual d.params d.body d.scope [] [] (He.ma K (He.ga K x) "__init__") fd) (S : FnScope N N d.scope) (hbi : ∀ (kV doc pm : Value) (an : Option Addr) (cdv ct : Value) (us : List Value), us.length = N.length → bindArgs (PySem.W.fnOf d.name d.qual d.params d.body d.scope .none kV doc pm an cdv ct) ⟨us, []⟩ = pure (N.zip us))
    (hb : ∀ (cdv : Value) (A : Around) (outer : List Env) (s : Shared) (H : Hp) (E : XK), PSs (cxOf (L2N.CX P w) P w K mg base N d.qual d.scope (He.ma K (He.ga K x) "__init__") cdv A outer s H E) d.body (initT K (q :: r)))
    (hf : (q :: r).map (·.1) = flds := by rfl) (hnp : N.length = np := by rfl) (hix : ∀ p ∈ q :: r, p.2 < N.length := by decide) (hl : r.length ≤ 800 := by decide) : Mkr P w K mg base (k + 1) x np (q :: r) := by
  subst hnp
  obtain ⟨T, h1, h2, h3⟩ := oexB_ok ho
  refine ⟨_, _, fd, N, hm, T, h1, h2, init_ok F S T (fun p hp => h3 _ (hf ▸ List.mem_map_of_mem hp)) hix hl hb, F.bindsN hbi⟩
end Dn

/-! reading try, raise, e.f -/
namespace Dn
open PySem PySem.Spec L2
section
variable {t : T} {S S1 : Sto} {sl sl1 : Sl} {b : Bool} {c : Str} {fs : Flds} {ts : List T} {l : List ClD} {o : Option Nat} {m : List (Str × Bool)} {su : Str → Flds → DS}
def RS.tryR (r : RS) (l : List ClD) : RS := match r with
  | .exc c fs sl1 S1 => dCls c fs sl1 S1 l
  | r => r
@[simp] theorem dTry_eq (d : DS) : dTry d l sl S = (d sl S).tryR l := id rfl
@[simp] theorem tryR_nx : (RS.nx sl S).tryR l = .nx sl S := id rfl
@[simp] theorem tryR_rt : (RS.rt t S).tryR l = .rt t S := id rfl
@[simp] theorem tryR_exc : (RS.exc c fs sl S).tryR l = dCls c fs sl S l := id rfl
@[simp] theorem dCls_nil : dCls c fs sl S [] = .exc c fs sl S := id rfl
def clR (k : Option Bool) (x y : RS) : RS := match k with
  | some true => x
  | some false => y
  | none => .bad
@[simp] theorem clR_t {x y : RS} : clR (some true) x y = x := id rfl
@[simp] theorem clR_f {x y : RS} : clR (some false) x y = y := id rfl
@[simp] theorem dCls_cons : dCls c fs sl S ((o, m, su) :: l) = clR (m.lookup c) ((su c fs (un o sl) S).inSuite o) (dCls c fs sl S l) := id rfl
@[simp] theorem un_none : un none sl = sl := id rfl
@[simp] theorem un_some {i : Nat} : un (some i) sl = sl.set i none := id rfl
@[simp] theorem inSuite_rt : (RS.rt t S).inSuite o = .rt t S := id rfl
@[simp] theorem inSuite_nx : (RS.nx sl S).inSuite o = .nx (un o sl) S := id rfl
@[simp] theorem setM_int' {i : Nat} {k : Int} : setM i sl S (.int k) = .nx (sl.set i (some (.int k))) S := id rfl
@[simp] theorem setM_str' {i : Nat} {k : Str} : setM i sl S (.str k) = .nx (sl.set i (some (.str k))) S := id rfl
@[simp] theorem setM_tup' {i : Nat} {k : List T} : setM i sl S (.tup k) = .nx (sl.set i (some (.tup k))) S := id rfl
@[simp] theorem setM_ref' {i k : Nat} : setM i sl S (.ref k) = .nx (sl.set i (some (.ref k))) S := id rfl
def pinR (v : Option (Option T)) (x : Option T) (S : Sto) : RE := match v with
  | some none => (match x with
    | some t => .ok t S
    | none => .bad)
  | _ => .bad
@[simp] theorem pinR_ok : pinR (some none) (some t) S = .ok t S := id rfl
@[simp] theorem dPin_eq {i : Nat} {f : Str} : dPin i fs f sl S = pinR sl[i]? (fs.lookup f) S := by
  unfold dPin pinR
  cases sl[i]? with
  | none => rfl
  | some x => cases x <;> rfl
def RA.rz (r : RA) (c : Str) (np : Nat) (q : List (Str × Nat)) (sl : Sl) : RS := match r with
  | .ok ts S1 => if ts.length + 1 = np then .exc c ((q.map fun q => (q.1, (T.non :: ts).getD q.2 .non)).reverse) sl S1 else .bad
  | .exc c fs S1 => .exc c fs sl S1
  | .bad => .bad
@[simp] theorem rz_ok {np : Nat} {q : List (Str × Nat)} : (RA.ok ts S).rz c np q sl = if ts.length + 1 = np then .exc c ((q.map fun q => (q.1, (T.non :: ts).getD q.2 .non)).reverse) sl S else .bad := id rfl
@[simp] theorem dRaise_eq {np : Nat} {q : List (Str × Nat)} {d : DA} : dRaise c np q d sl S = (d sl S).rz c np q sl := by
  unfold dRaise RA.rz
  cases d sl S <;> rfl
@[simp] theorem gcR_exc {S S' : Sto} : gcR S (.exc c fs sl S') = gcX S c fs S' := id rfl
theorem gcX_cut {S S' : Sto} (h : CutOk S S') (hf : (fs.all fun p => T.lt S.length p.2) = true) : gcX S c fs S' = .exc c fs (S'.take S.length) := by
  unfold gcX
  rw [if_pos ⟨h, hf⟩]
theorem gcX_same (hf : (fs.all fun p => T.lt S.length p.2) = true) : gcX S c fs S = .exc c fs S := by
  rw [gcX_cut ⟨Nat.le_refl _, fun i hi o ho => .inl ho⟩ hf, List.take_length]
@[simp] theorem RE.bind_excE (f : T → Sto → RE) : (RE.exc c fs S).bind f = .exc c fs S := id rfl
@[simp] theorem dExpr_exc {d : DE} (h : d sl S = .exc c fs S1) : dExpr d sl S = .exc c fs sl S1 := by
  unfold dExpr; rw [h]; rfl
end
end Dn

/-! isinstance of the exception that is handled; defs called with it -/
namespace Dn
open PySem PySem.Spec PySem.W PySem.Calls PyProof.Rows
section
variable {prog : Program} {w : World} {A : Around} {E : Value → Shared → Prop} {s : Shared} {K : Frag} {x D : Addr} {ox od : Obj}
/-- e.__class__ of an error that has its dict -/
theorem exc_class {Q : Option Value → Shared → Prop} (C : L2.ExcC K D) (X : K.In s.heap) (I : InstAt s.heap x ox D (some od)) (h : Q (some (.ref D)) { s with toks := s.toks + 1 }) : wpAny (model prog w) A (getAttr? (.ref x) "__class__") Q E s := by
  have hf : findObj K D (some od) "__class__" = some (.bind (.builtin "getset_descriptor.__get__") (.builtin "object.__class__")) := findObj_data (by obtain ⟨cd, hc, _⟩ := any_some C.hd; rw [hc]; rfl) C.ha C.hn C.ht
  obtain ⟨hp, g, d, t, os⟩ := s
  have t0 := I.type (M := model prog w)
  have t1 := looks_findIn (M := model prog w) X C.hg
  have t2 := looks_findIn (M := model prog w) X C.hk
  have t3 := looks_find (M := model prog w) X I hf
  have below : Looks (model prog w) hp (isInstance (.ref x) (.type "BaseException")) true := t0.andThen (looks_subIn X C.hs)
  have b2 : (Value.builtin "BaseException.__getattribute__" == Value.builtin "object.__getattribute__") = false := by decide +kernel
  have b1 : (onTheHeap (Value.ref D) && Value.builtin "BaseException.__getattribute__" == Value.builtin "object.__getattribute__") = false := by rw [b2]; rfl
  have b0 : (false && onTheHeap (Value.builtin "BaseException.__getattribute__")) = false := rfl
  unfold getAttr? getAttrBy? getAttrBy
  refine wpAny_bind (wpAny_mkText (wpAny_bind (wpAny_attempt (wpAny_holding (wpAny_bind (t0.at (wpAny_bind (t1.at ?_))))))))
  show wpAny _ _ (if (onTheHeap (Value.ref D) && Value.builtin "BaseException.__getattribute__" == Value.builtin "object.__getattribute__") = true then _ else _) _ _ _
  rw [b1, if_neg Bool.false_ne_true]
  unfold getAttrByItsOwn hookBefore
  refine wpAny_bind ?_
  rw [if_pos (show onTheHeap (Value.ref D) = true from rfl)]
  refine t2.at ?_
  refine wpAny_bind (wpAny_attempt (wpAny_holding ?_))
  unfold callGetattribute
  rw [b0, if_neg Bool.false_ne_true]
  unfold boundAndCalled
  rw [PySem.F.excAttr_ValueError.ga.bind (.ref x)]
  refine wpAny_bind (wpAny_pure ?_)
  show wpAny _ _ (call (.builtin "BaseException.__getattribute__") [.ref x, .str "__class__" t]) _ _ _
  refine wpAny_call (codeAny_call_builtin PySem.F.excAttr_ValueError.ga.plain PySem.F.entry_bexc_ga (@check_slot (model prog w) _ _ ⟨hp, g, d, t + 1, os⟩ "BaseException.__getattribute__" "BaseException" "__getattribute__" (.ref x) [.str "__class__" t] [] _ (by decide +kernel) (by decide +kernel) below (PySem.F.args_bexc_ga (.ref x) (.str "__class__" t)) ?_))
  unfold Builtin.«object.__getattribute__»
  refine wpAny_bind (wpAny_of_eq (a := ((Value.ref x : Value), [Value.str "__class__" t])) (by first | rfl | (simp only [slotArgs]; rfl)) (wpAny_bind (wpAny_pure (wpAny_bind (t0.at (wpAny_bind (t3.at ?_)))))))
  show wpAny _ _ (holding [Value.builtin "object.__class__"] (call (.builtin "getset_descriptor.__get__") [.builtin "object.__class__", .ref x, .ref D]) >>= ret) _ _ _
  refine wpAny_bind (wpAny_holding (wpAny_call (class_get (s := ⟨hp, g, d, t + 1, os⟩) (ox := ox) (od := some od) X I C.hm (wpAny_pure ?_))))
  show wpAny _ _ (handedOut (.ref D)) _ _ _
  rw [handedOut_of (v := .ref D) rfl]
  first
    | exact wpAny_pure h
    | exact wpAny_pure (wpAny_pure h)
    | exact wpAny_pure (wpAny_bind (wpAny_pure (wpAny_pure h)))
theorem kit_exc (C : L2.ExcC K D) : KitX K (.ref x) (.ref D) (fun h => InstAt h x ox D (some od)) where
  ty := fun _ _ _ I => I.type
  it := fun _ _ X _ => by
    obtain ⟨cd, hc, _⟩ := any_some C.hd
    unfold clsIn at hc
    split at hc
    · rename_i _ _ _ _ ho
      intro A' Q' E' s' k q
      unfold isType loadHead
      exact wpAny_bind (wpAny_loadPart (k _ _ (X _ _ ho)) (wpAny_pure q))
    · cases hc
  ne := fun h tp dd its n sl X htp => by
    obtain ⟨cd, hc, _⟩ := any_some C.hd
    refine Bool.eq_false_iff.mpr fun q => ?_
    obtain rfl : D = tp := Value.ref.inj (beq_iff_eq.mp q)
    unfold clsIn at hc
    split at hc
    · rename_i _ _ _ _ ho
      cases (X _ _ ho).symm.trans htp
    · cases hc
  ca := fun X I k => exc_class C X I k
end
end Dn

/-! e.f, isinstance(e, X), f(e) where e is the exception that is handled -/
namespace Dn
open PySem PySem.Spec PyProof.Rows L2
/-- the pinned exception stands in the context -/
structure PinX (X : Cx) (p : Pin) (C : Addr) (ob : Obj) : Prop where
  mem : (p.a, ob) ∈ X.pn
  hz : Zc (.ref C) (some p.d) ob
  dat : ∃ us, ob.data = .fields us
  mgc : X.mg p.c = some (.ref C)
section
variable {X : Cx} {p : Pin} {C : Addr} {ob : Obj} {W : WX}
theorem PinX.inst (P : PinX X p C ob) {pins : List (Addr × Obj)} {σ : L2.St} {H : Hp} {s : Shared} {fs : List (Str × V)} (I : Inv X pins σ H s) (hd : H p.d = some (.xd fs)) : ∃ od, PySem.W.InstAt s.heap p.a ob C (some od) ∧ ∃ mA : Str → Option Value, (∀ n, PySem.W.lookIn n od = some (mA n)) ∧ ∀ f, RelO (fs.lookup f) (mA f) := by
  obtain ⟨ha, _⟩ := I.pin (p.a, ob) (List.mem_append_left _ P.mem)
  obtain ⟨us, hu⟩ := P.dat
  have hx : ObjOk X.prog X.w H s.heap p.d (.xd fs) := I.hok p.d _ hd
  obtain ⟨mA, hns, hr⟩ := hx
  obtain ⟨od, ho, hl⟩ := lookIn_ns hns
  exact ⟨od, ⟨ha, P.hz.1, by unfold PySem.W.notCls; rw [hu] <;> rfl, by rw [P.hz.2]; exact ho⟩, mA, hl, hr⟩
/-- e.f -/
theorem le_pinG {e : Expr} {f : Str} {pos : Pos} {i : Nat} (P : PinX X p C ob) (hpi : p.i = i) (T : XfC X.K C) (hno : PySem.W.findIn X.K (.ref C) f = some none) (he : PE X e (tVar i)) (hb : attributeBase e f X.env (eval e X.env) = eval e X.env := by rfl) :
    LE ⟨X, some p⟩ W (.Attribute e f pos) (dPin i p.fs f) := by
  subst hpi
  refine ⟨fun pins s σ H Q I ⟨ρ, av, sl, S, hs, hh, g⟩ => ?_⟩
  unfold dPin at g
  obtain ⟨h1, h2, h3, h4, h5⟩ := hh.pin p rfl
  split at g
  · rename_i q1
    split at g
    · rename_i t q2
      obtain ⟨v, hv, rv⟩ := lookup_rep h4 q2
      refine attr_of hb (thn (he.run pins s σ H (fun x H1 => x = .ref p.a ∧ H1 = H) I ⟨_, h5 q1, rfl, rfl⟩) fun u s1 ⟨x, H1, I1, rx, ex, eH⟩ => ?_)
      subst ex eH
      obtain rfl : u = Value.ref p.a := rx
      obtain ⟨od, J, mA, hl, hr⟩ := P.inst I1 h1
      obtain ⟨u, hu, ru⟩ := RelO.some_of (v := v) (o := mA f) (by rw [← hv]; exact hr f)
      exact HandSPX.exc_get I1.kIn J T.ga T.gg T.exC (PySem.W.findObj_own T.hdC hno rfl (by rw [hl, hu])) (handed_of ru) ⟨v, H1, I1.tok _, ru, g.now hs rv⟩
    · exact g.elim
  · exact g.elim
/-- what is known of isinstance, the second one being the class x -/
def IsX (K : PySem.W.Frag) (mg : Str → Option Value) (x : Str) (m : List (Str × Bool)) : Prop := ∃ c, mg x = some (.ref c) ∧ ∀ k b C, m.lookup k = some b → mg k = some (.ref C) → ExcC K C ∧ PySem.W.kitOne K (.ref C) (.ref c) = some b
def dIsx (i : Nat) (m : List (Str × Bool)) (c : Str) : DE := fun sl S => match sl[i]? with
  | some none => (match m.lookup c with
    | some b => .ok (.bl b) S
    | none => .bad)
  | _ => .bad
def dIsx3 (i : Nat) (m1 m2 m3 : List (Str × Bool)) (c : Str) : DE := fun sl S => match sl[i]? with
  | some none => (match m1.lookup c, m2.lookup c, m3.lookup c with
    | some b1, some b2, some b3 => .ok (.bl (b1 || (b2 || b3))) S
    | _, _, _ => .bad)
  | _ => .bad
def rIsD (K : PySem.W.Frag) (C a dd : Addr) : List V → Hp → VK → Prop := fun xs H Q => ∃ (c : Addr) (b : Bool) (fs : List (Str × V)), xs = [.ref a, .ref c] ∧ H dd = some (.xd fs) ∧ ExcC K C ∧ PySem.W.kitOne K (.ref C) (.ref c) = some b ∧ Q (.bl b) H
theorem call_isD (P : PinX X p C ob) : CallR X (.builtin "isinstance") (rIsD X.K C p.a p.d) := by
  intro pins s σ H xs us Q I r ⟨c, b, fs, exs, hd, hE, hk, q⟩
  subst exs
  obtain ⟨u1, u2, rfl, r1, r2⟩ := vals2 r
  cases (show u1 = Value.ref p.a from r1)
  cases (show u2 = Value.ref c from r2)
  obtain ⟨od, J, _⟩ := P.inst I hd
  exact PySem.W.kia_one (kit_exc hE) I.kIn J hk (fun z => nomatch z) fun tk => ⟨.bl b, H, I.tok tk, rfl, q⟩
def rIsDT (K : PySem.W.Frag) (C a dd : Addr) : List V → Hp → VK → Prop := fun xs H Q => ∃ (tp : Addr) (cs : List Addr) (b : Bool) (fs : List (Str × V)), xs = [.ref a, .ref tp] ∧ H tp = some (.tup (cs.map V.ref)) ∧ H dd = some (.xd fs) ∧ ExcC K C ∧ PySem.W.kitAny K (.ref C) (cs.map Value.ref) = some b ∧ Q (.bl b) H
theorem clsV_refs : ∀ cs : List Addr, Paired ClsV (cs.map V.ref) (cs.map Value.ref)
  | [] => .nil
  | c :: cs => .cons (.own c) (clsV_refs cs)
theorem call_isDT (P : PinX X p C ob) : CallR X (.builtin "isinstance") (rIsDT X.K C p.a p.d) := by
  intro pins s σ H xs us Q I r ⟨tp, cs, b, fs, exs, hT, hd, hE, hk, q⟩
  subst exs
  obtain ⟨u1, u2, rfl, r1, r2⟩ := vals2 r
  cases (show u1 = Value.ref p.a from r1)
  cases (show u2 = Value.ref tp from r2)
  obtain ⟨od, J, _⟩ := P.inst I hd
  obtain ⟨_, its, rv, o, h1, h2, n, h3⟩ := (show ObjOk X.prog X.w H s.heap tp (.tup (cs.map V.ref)) from I.hok tp _ hT)
  have e3 := ClsV.all (clsV_refs cs) rv
  subst e3
  obtain ⟨oc, od', dt, sl⟩ := o
  simp only at h2 h3
  subst h2 h3
  exact PySem.W.kia_tup (kit_exc hE) I.kIn J h1 hk (fun z => nomatch z) fun tk => ⟨.bl b, H, I.tok tk, rfl, q⟩
theorem le_isx {e : Expr} {x : Str} {q q2 pos : Pos} {i : Nat} {m : List (Str × Bool)} (P : PinX X p C ob) (hpi : p.i = i) (hx : IsX X.K X.mg x m) (hg : Gl X "isinstance") (hm : X.mg "isinstance" = none) (hgx : Gl X x) (he : PE X e (tVar i))
    (hst : starEach [e, .Name x q2] X.env = (false, eval e X.env) :: starEach [.Name x q2] X.env := by rfl) (hdb : (x == ("__debug__" : Str)) = false := by decide) : LE ⟨X, some p⟩ W (.Call (.Name "isinstance" q) [e, .Name x q2] [] pos) (dIsx i m p.c) := by
  subst hpi
  obtain ⟨c, hc, hk⟩ := hx
  refine (pe_callB (X := X) (he := hst) (call_isD P) hg hm PyProof.Rows.boot_isinstance (pa_cons he (pa_cons (pe_glob (v := .ref c) hgx hc rfl hdb) pa_nil) hst)).imp fun σ H Q ⟨ρ, av, sl, S, hs, hh, g⟩ => ?_
  unfold dIsx at g
  obtain ⟨h1, h2, h3, h4, h5⟩ := hh.pin p rfl
  split at g
  · rename_i q1
    split at g
    · rename_i b q2
      obtain ⟨k1, k2⟩ := hk _ _ _ q2 P.mgc
      exact ⟨_, h5 q1, c, b, p.vs, rfl, h1, k1, k2, g.now hs (.bl _)⟩
    · exact g.elim
  · exact g.elim
theorem le_isx3 {e : Expr} {x y z : Str} {q q1 q2 q3 pos tpos : Pos} {k : Nat} {i : Nat} {m1 m2 m3 : List (Str × Bool)} (P : PinX X p C ob) (hpi : p.i = i) (hx : IsX X.K X.mg x m1) (hy : IsX X.K X.mg y m2) (hz : IsX X.K X.mg z m3) (hg : Gl X "isinstance") (hm : X.mg "isinstance" = none) (hgx : Gl X x) (hgy : Gl X y) (hgz : Gl X z) (he : PE X e (tVar i))
    (hst : starEach [e, .Tuple [.Name x q1, .Name y q2, .Name z q3] k tpos] X.env = (false, eval e X.env) :: starEach [.Tuple [.Name x q1, .Name y q2, .Name z q3] k tpos] X.env := by rfl)
    (hdx : (x == ("__debug__" : Str)) = false := by decide) (hdy : (y == ("__debug__" : Str)) = false := by decide) (hdz : (z == ("__debug__" : Str)) = false := by decide) : LE ⟨X, some p⟩ W (.Call (.Name "isinstance" q) [e, .Tuple [.Name x q1, .Name y q2, .Name z q3] k tpos] [] pos) (dIsx3 i m1 m2 m3 p.c) := by
  subst hpi
  obtain ⟨c1, hc1, hk1⟩ := hx
  obtain ⟨c2, hc2, hk2⟩ := hy
  obtain ⟨c3, hc3, hk3⟩ := hz
  refine (pe_callB (X := X) (he := hst) (call_isDT P) hg hm PyProof.Rows.boot_isinstance (pa_cons he (pa_cons (pe_tup (pa_cons (pe_glob (v := .ref c1) hgx hc1 rfl hdx) (pa_cons (pe_glob (v := .ref c2) hgy hc2 rfl hdy) (pa_cons (pe_glob (v := .ref c3) hgz hc3 rfl hdz) pa_nil)))) pa_nil) hst)).imp fun σ H Q ⟨ρ, av, sl, S, hs, hh, g⟩ => ?_
  unfold dIsx3 at g
  obtain ⟨h1, h2, h3, h4, h5⟩ := hh.pin p rfl
  split at g
  · rename_i q1
    split at g
    · rename_i b1 b2 b3 l1 l2 l3
      obtain ⟨k1, k1'⟩ := hk1 _ _ _ l1 P.mgc
      obtain ⟨_, k2'⟩ := hk2 _ _ _ l2 P.mgc
      obtain ⟨_, k3'⟩ := hk3 _ _ _ l3 P.mgc
      have hany : PySem.W.kitAny X.K (.ref C) ([c1, c2, c3].map Value.ref) = some (b1 || (b2 || b3)) := by
        refine kitAny_cons k1' (fun e1 => kitAny_cons k2' (fun e2 => kitAny_cons k3' (fun e3 => ?_) fun e3 => ?_) fun e2 => ?_) fun e1 => ?_
        · rw [e1, e2, e3]; rfl
        · rw [e1, e2, e3]; rfl
        · rw [e1, e2]; rfl
        · rw [e1]; rfl
      refine ⟨_, h5 q1, ?_⟩
      refine ⟨by show 3 ≤ sizeLine; rw [sizeLine_eq]; omega, fun tp htp => ?_⟩
      have hne : p.d ≠ tp := fun z => by rw [z, htp] at h1; cases h1
      exact ⟨tp, [c1, c2, c3], b1 || (b2 || b3), p.vs, rfl, upd_same, by rw [upd_ne hne]; exact h1, k1, hany, g _ _ ρ (Ext.laid hs htp _) (hs.laid htp _) (.bl _)⟩
    · exact g.elim
  · exact g.elim
end
end Dn

/-! defs that are called with the handled exception -/
namespace Dn
open PySem PySem.Spec PyProof.Rows L2 L2H
/-- what such a def promises, p being the handled exception's object -/
structure FnX (P : Program) (w : World) (K : PySem.W.Frag) (mg : Str → Option Value) (base : Heap) (k : Nat) (f : Addr) (fd : FuncData) (ps : List Str) (p : Addr × Obj) (sp : Sp) : Prop where
  len : ∀ vs H Q E, sp vs H Q E → vs.length = ps.length
  run : ∀ (A : Around) (outer : List Env) (s : Shared) (H : Hp) (args : Args) (us : List Value) (vs : List V) (Q : VK) (E : XK), RoomH k A → Hot1 A p → PinOk outer H s p → Env0 P w K mg base A outer s H → BindsTo s fd args (ps.zip us) → Vals vs us → sp vs H Q E →
    codeAny (model P w) A (.call (.ref f) args) (CR (L2N.CX P w) outer P w H s Q E) s
section
variable {P : Program} {w : World} {K : PySem.W.Frag} {mg : Str → Option Value} {base : Heap}
theorem fnX_of {k : Nat} {f : Addr} {name qual : Str} {params : Arguments} {body : List Stmt} {scope : Scope} {dV kV doc pm cdv ct oc : Value} {an od : Option Addr} {osl : Array (Option Value)} {N ps : List Str} {p : Addr × Obj} {sp : Sp}
    (lk : K.lookup f = some ⟨oc, od, .func (PySem.W.fnOf name qual params body scope dV kV doc pm an cdv ct), osl⟩) (hcd : PySem.W.codeIn K cdv qual = true) (S : FnScope N ps scope) (len : ∀ vs H Q E, sp vs H Q E → vs.length = ps.length)
    (hb : ∀ (A : Around) (outer : List Env) (s : Shared) (H : Hp) (vs : List V) (Q : VK) (E : XK), Hot1 A p → RoomH k (A.deeper (envOfC qual scope s.heap.objs.size f cdv)) → sp vs H Q E →
      ∃ t, PSs (cxH (L2N.CX P w) P w K mg base N qual scope f cdv A outer s H E p) body t ∧ t { nx := fun _ H' => Q .non H', rt := Q } (L2.start N vs) H) :
    FnX P w K mg base (k + 1) f (PySem.W.fnOf name qual params body scope dV kV doc pm an cdv ct) ps p sp := ⟨len, fun A outer s H args us vs Q E hr hot pin e0 bi r h => by
  have inK : K.In s.heap := e0.mod.kin.keeps fun b o e => (e0.bs b o e).1
  have free : s.heap.NoLimit := e0.mod.nolimit.keeps fun b o e => (e0.bs b o e).1
  have kinds : ∀ y ∈ ps.zip us, scope.names.lookup y.1 = some .local ∨ (scope.names.lookup y.1 = some .cell ∧ ((cellsFrom (s.heap.objs.size + 1) scope.names []).lookup y.1).isSome = true) := fun ⟨n, v⟩ hy =>
    (S.par n (List.of_mem_zip hy).1).elim .inl fun q => .inr ⟨q, PySem.W.cellsFrom_some _ _ _ (.inl q)⟩
  refine codeAny_call_function hr.depth (inK _ _ lk) rfl S.co S.gen rfl (PySem.W.codeRec_of inK hcd) (bi _ _ _ _ (wpAny_newFunctionEnv_cells S.kind kinds fun env he s1 x => ?_))
  subst he
  refine ⟨free.keeps x.toInCall.keep, codeAny_func ?_⟩
  obtain ⟨t, ht, hq⟩ := hb A outer s H vs Q E hot (hr.deeper _) h
  have I : Inv (cxH (L2N.CX P w) P w K mg base N qual scope f cdv A outer s H E p) [] (L2.start N vs) H s1 := inv_startH S pin e0 (len _ _ _ _ h) r x
  refine wpAny_mono (ht.run [] s1 (L2.start N vs) H _ I hq) (fun fl s2 hs => ?_) fun e s2 hs => hs
  cases fl with
  | ret u => obtain ⟨v, τ, G, J, rv, q⟩ := hs; exact ⟨v, G, J.os, J.bare, J.base, J.hok, rv, q⟩
  | next => obtain ⟨τ, G, J, q⟩ := hs; exact ⟨V.non, G, J.os, J.bare, J.base, J.hok, rfl, q⟩
  | brk => obtain ⟨_, _, _, q⟩ := hs; exact q.elim
  | cont => obtain ⟨_, _, _, q⟩ := hs; exact q.elim⟩
/-- a def of one name, the exception: its promise by the reading -/
def spX (K : PySem.W.Frag) (w : World) (mg : Str → Option Value) (p : Pin) (dh : Sto → RE) : Sp := fun vs H Q E => vs = [.ref p.a] ∧ ∃ ρ av S, RepS K w H ρ av S ∧ H p.d = some (.xd p.vs) ∧ p.d ∉ ρ ∧ p.d ∉ av ∧ RepKd K w H ρ av p.vs p.fs ∧ GoodF K w mg H ρ av Q E (dh S)
/-- n names -/
noncomputable def dHot (n : Nat) (b : Str → Flds → DS) : Str → Flds → Sto → RE := fun c fs S => gcR S (b c fs (List.replicate n none) S)
theorem hot_ok {x qual prm : Str} {params : Arguments} {body : List Stmt} {scope : Scope} {f : Addr} {fd : FuncData} {N : List Str} {k : Nat} {b : Str → Flds → DS} (F : FunD K x qual params body scope [] [] f fd) (S : FnScope N [prm] scope) (p : Pin) (ob : Obj) (hi : p.i = 0) (hn : 0 < N.length)
    (hb : ∀ (cdv : Value) (A : Around) (outer : List Env) (s : Shared) (H : Hp) (E : XK), RoomH k (A.deeper (envOfC qual scope s.heap.objs.size f cdv)) → LSs ⟨cxH (L2N.CX P w) P w K mg base N qual scope f cdv A outer s H E (p.a, ob), some p⟩ (WF E) body (b p.c p.fs)) :
    FnX P w K mg base (k + 1) f fd [prm] (p.a, ob) (spX K w mg p (dHot N.length b p.c p.fs)) := by
  obtain ⟨oc, od, dV, kV, doc, pm, an, cdv, ct, osl, rfl, lk, hcd, _, _⟩ := F.ex
  refine fnX_of lk hcd S (fun vs H Q E h => by rw [h.1]; rfl) fun A outer s H vs Q E hot hr h => ⟨_, hb cdv A outer s H E hr, ?_⟩
  obtain ⟨rfl, ρ, av, St, hs, h1, h2, h3, h4, g⟩ := h
  refine ⟨ρ, av, List.replicate N.length none, St, hs, ⟨by simp [L2.start]; omega, fun i t e => ?_, fun q e => ?_⟩, ?_⟩
  · rw [List.getElem?_replicate] at e
    split at e <;> cases e
  · cases e
    refine ⟨h1, h2, h3, h4, fun _ => ?_⟩
    rw [hi]
    rfl
  · unfold dHot at g
    generalize b p.c p.fs (List.replicate N.length none) St = res at g
    cases res with
    | nx sl S' => exact fun σ' H' ρ' e s' _ _ => good_gcT hs g e s' .non
    | rt t S' => exact fun v H' ρ' e s' r => good_gcT hs g e s' r
    | exc c fs sl S' => exact fun cls dd σ' H' ρ' e s' _ _ rx => good_gcX hs g e s' rx
    | bk sl S' => exact g.elim
    | ct sl S' => exact g.elim
    | bad => exact g.elim
/-- what a def's caller is told: over every exception of a class at hand -/
def OwnX (P : Program) (w : World) (K : PySem.W.Frag) (mg : Str → Option Value) (base : Heap) (k : Nat) (x : Str) (cs : List Str) (dh : Str → Flds → Sto → RE) : Prop :=
  ∃ f fd prm, mg x = some (.ref f) ∧ PySem.W.keepIn K (.ref f) = true ∧ Binds K fd [prm] [] ∧ ∀ (p : Pin) (C : Addr) (ob : Obj), p.i = 0 → p.c ∈ cs → mg p.c = some (.ref C) → Zc (.ref C) (some p.d) ob → (∃ us, ob.data = .fields us) →
    FnX P w K mg base k f fd [prm] (p.a, ob) (spX K w mg p (dh p.c p.fs))
theorem ownX_of {x prm : Str} {cs : List Str} {d : He.DefD} {f : Addr} {fd : FuncData} {N : List Str} {k : Nat} {b : Str → Flds → DS} (F : FunD K d.name d.qual d.params d.body d.scope [] [] f fd) (hm : mg x = some (.ref f)) (S : FnScope N [prm] d.scope)
    (hbi : ∀ (kV doc pm : Value) (an : Option Addr) (cdv ct : Value) (us : List Value), us.length = [prm].length → bindArgs (PySem.W.fnOf d.name d.qual d.params d.body d.scope .none kV doc pm an cdv ct) ⟨us, []⟩ = pure ([prm].zip us)) (hn : 0 < N.length)
    (hb : ∀ (p : Pin) (C : Addr) (ob : Obj), p.i = 0 → p.c ∈ cs → mg p.c = some (.ref C) → Zc (.ref C) (some p.d) ob → (∃ us, ob.data = .fields us) → ∀ (cdv : Value) (A : Around) (outer : List Env) (s : Shared) (H : Hp) (E : XK), RoomH k (A.deeper (envOfC d.qual d.scope s.heap.objs.size f cdv)) →
      PinX (cxH (L2N.CX P w) P w K mg base N d.qual d.scope f cdv A outer s H E (p.a, ob)) p C ob → LSs ⟨cxH (L2N.CX P w) P w K mg base N d.qual d.scope f cdv A outer s H E (p.a, ob), some p⟩ (WF E) d.body (b p.c p.fs)) : OwnX P w K mg base (k + 1) x cs (dHot N.length b) :=
  ⟨f, fd, prm, hm, F.kp, F.bindsN hbi, fun p C ob hi hc hmc hz hd => hot_ok F S p ob hi hn fun cdv A outer s H E hr => hb p C ob hi hc hmc hz hd cdv A outer s H E hr ⟨List.mem_cons_self, hz, hd, hmc⟩⟩
end
/-- x(e), e the name at slot i -/
def dHotC (i : Nat) (r : Sto → RE) : DE := fun sl S => match sl[i]? with
  | some none => r S
  | _ => .bad
section
variable {X : Cx} {p : Pin} {C : Addr} {ob : Obj} {W : WX} {k : Nat} {x : Str} {cs : List Str} {dh : Str → Flds → Sto → RE} {e : Expr} {q pos : Pos} {i : Nat}
theorem le_hot (P : PinX X p C ob) (hpi : p.i = i) (hc : p.c ∈ cs) (hh : X.A.handled = some (.ref p.a)) (hz : PXN.CtxN ob) (F : OwnX X.prog X.w X.K X.mg X.base k x cs dh) (hr : RoomH k X.A) (hg : Gl X x) (tk : L2N.Takes X W) (he : PE X e (tVar i))
    (hdb : (x == ("__debug__" : Str)) = false := by decide) (hst : starEach [e] X.env = (false, eval e X.env) :: starEach [] X.env := by rfl) (hpl : (backTo pos (starEach [] X.env)).any (·.1) = false := by rfl) :
    LE ⟨X, some p⟩ W (.Call (.Name x q) [e] [] pos) (dHotC i (dh p.c p.fs)) := by
  subst hpi
  obtain ⟨f, fd, prm, hm, hk, hb, hF⟩ := F
  have F := hF ⟨0, p.a, p.d, p.c, p.vs, p.fs⟩ C ob rfl hc P.mgc P.hz P.dat
  refine ⟨fun pins s σ H Q I ⟨ρ, av, sl, S, hs, hE, g⟩ => ?_⟩
  unfold dHotC at g
  obtain ⟨h1, h2, h3, h4, h5⟩ := hE.pin p rfl
  split at g
  · rename_i q1
    refine wpAny_Call_Name_kw (ld_glob I hg hm ?_ hdb)
    refine PySem.W.callWith_K (h₀ := X.base) I.ok.mod.kin hk (thn ((pa_cons he pa_nil hst).run pos pins s σ H (fun vs H1 => vs = [.ref p.a] ∧ H1 = H) I ⟨_, h5 q1, rfl, rfl⟩) fun us s1 ⟨vs, H1, I1, r, ev, eH⟩ => ⟨I1.kIn, ?_⟩) hst hpl
    subst ev eH
    obtain ⟨us0, hu⟩ := P.dat
    have hot : Hot1 X.A (p.a, ob) := ⟨hh, us0, hu, hz us0 hu⟩
    have P1 := I1.pin (p.a, ob) (List.mem_append_left _ P.mem)
    have pin : PinOk X.stack H1 s1 (p.a, ob) := ⟨P1.1, P1.2.1, fun hmm => (List.mem_cons.mp (I1.stkSub p.a hmm)).elim P1.2.2.1 P1.2.2.2.1, P1.2.2.2.2⟩
    have hl : us.length = [prm].length := by rw [← r.length]; rfl
    have b2 := hb s1 us I1.kIn (by rw [List.append_nil]; exact hl)
    rw [List.append_nil] at b2
    have sp : spX X.K X.w X.mg ⟨0, p.a, p.d, p.c, p.vs, p.fs⟩ (dh p.c p.fs) [.ref p.a] H1 Q (WE W σ) := by
      refine ⟨rfl, ρ, av, S, hs, h1, h2, h3, h4, ?_⟩
      cases hd : dh p.c p.fs S with
      | ok t S2 => rw [hd] at g; exact g
      | exc c fs S2 => rw [hd] at g; exact g
      | bad => rw [hd] at g; exact g
    refine wpAny_call (codeAny_mono (F.run X.A X.stack s1 H1 ⟨us, []⟩ us [.ref p.a] Q (WE W σ) hr hot pin I1.env0 b2 r sp) fun res s2 hq => ?_)
    cases res with
    | error er => exact L2N.passAt tk σ pins H1 s1 er s2 I1 hq
    | ok fl =>
      cases fl with
      | ret u => exact I1.after hq
      | next => exact hq.elim
      | brk => exact hq.elim
      | cont => exact hq.elim
  · exact g.elim
end
end Dn

/-! facts for isinstance of errors; isinstance(x, (T1, T2)) -/
namespace Dn
open PySem PySem.Spec PyProof.Rows L2
theorem roomH_m {k : Nat} {A : Around} (r : Room k A) (h : Option Value) : L2H.RoomH k (A.mark h) := ⟨r.dp, r.un⟩
theorem lookup_key {α : Type} {k : Str} {b : α} {m : List (Str × α)} (h : m.lookup k = some b) : k ∈ m.map (·.1) := List.mem_map.mpr ⟨_, lookup_mem h, rfl⟩
def excCB (K : PySem.W.Frag) (D : Addr) : Bool :=
  decide (PySem.W.findIn K (.ref D) "__getattribute__" = some (some (.builtin "BaseException.__getattribute__"))) && (decide (PySem.W.findIn K (.ref D) "__getattr__" = some none) && (decide (PySem.W.subIn K (.ref D) (.type "BaseException") = some true) && (PySem.W.hasDictIn K D &&
  (decide (PySem.W.findIn K (.ref D) "__class__" = some (some (.builtin "object.__class__"))) && (decide (PySem.W.specialIn K (.builtin "object.__class__") "__get__" = some (some (.builtin "getset_descriptor.__get__"))) && (decide (PySem.W.takesIn K (.builtin "object.__class__") = some true) && decide (PySem.W.mroIn K D (.type "object") = some true)))))))
theorem excCB_ok {K : PySem.W.Frag} {D : Addr} (h : excCB K D = true) : ExcC K D := by
  unfold excCB at h
  simp only [Bool.and_eq_true, decide_eq_true_eq] at h
  obtain ⟨h1, h2, h3, h4, h5, h6, h7, h8⟩ := h
  exact ⟨h1, h2, h3, h4, h5, h6, h7, h8⟩
def isB (K : PySem.W.Frag) (x : Str) (m : List (Str × Bool)) : Bool := m.all fun p => excCB K (He.ga K p.1) && decide (PySem.W.kitOne K (.ref (He.ga K p.1)) (.ref (He.ga K x)) = some p.2)
theorem isx_of {K : PySem.W.Frag} {mg : Str → Option Value} {x : Str} {m : List (Str × Bool)} (hx : mg x = some (.ref (He.ga K x))) (hg : ∀ p ∈ m, mg p.1 = some (.ref (He.ga K p.1))) (h : isB K x m = true) : IsX K mg x m := by
  refine ⟨_, hx, fun k b C hk hC => ?_⟩
  have hm := lookup_mem hk
  have e := hg _ hm
  dsimp only at e
  rw [hC] at e
  cases e
  have q := List.all_eq_true.mp h _ hm
  simp only [Bool.and_eq_true, decide_eq_true_eq] at q
  exact ⟨excCB_ok q.1, q.2⟩
/-- the fields fs can be read of the classes cs -/
def XfT (K : PySem.W.Frag) (mg : Str → Option Value) (cs fs : List Str) : Prop := ∀ k ∈ cs, ∀ C, mg k = some (.ref C) → XfC K C ∧ ∀ f ∈ fs, PySem.W.findIn K (.ref C) f = some none
def xfTB (K : PySem.W.Frag) (cs fs : List Str) : Bool := cs.all fun k => xfB K (He.ga K k) && fs.all fun f => decide (PySem.W.findIn K (.ref (He.ga K k)) f = some none)
theorem xft_of {K : PySem.W.Frag} {mg : Str → Option Value} {cs fs : List Str} (hg : ∀ k ∈ cs, mg k = some (.ref (He.ga K k))) (h : xfTB K cs fs = true) : XfT K mg cs fs := by
  intro k hk C hC
  have e := hg k hk
  rw [hC] at e
  cases e
  have q := List.all_eq_true.mp h _ hk
  simp only [Bool.and_eq_true, List.all_eq_true, decide_eq_true_eq] at q
  exact ⟨xfB_ok q.1, q.2⟩
/-! ### isinstance(e, (T1, T2)) -/
def dIsi2 (T1 T2 : String) (d : DE) : DE := fun sl S => (d sl S).bind fun x S1 => match tyT S1 (fz x) with
  | some n => .ok (.bl (isaB n T1 || isaB n T2)) S1
  | none => .bad
section
variable {X : DX} {W : WX}
theorem TyX.upd_ {K : PySem.W.Frag} {w : World} {H : Hp} {ρ av : List Addr} {S : Sto} {v : V} {t : T} {n : String} {tp : Addr} {o : HO} (hs : RepS K w H ρ av S) (r : RepV K w H ρ av v t) (h : tyT S t = some n) (ht : H tp = none) : TyX K (upd H tp o) v (.type n) := by
  have e := Ext.laid hs ht o
  exact (ty_rep (hs.laid ht o) (r.ext e) h).1
theorem le_isi2 {T1 T2 : String} {x y : Str} {p p2 p3 pos tpos : Pos} {k : Nat} {e : Expr} {d : DE} (hb1 : T1 ∈ ["bool", "int", "str", "tuple", "list", "dict"]) (hb2 : T2 ∈ ["bool", "int", "str", "tuple", "list", "dict"]) (hg : Gl X "isinstance") (hm : X.mg "isinstance" = none)
    (hgx : Gl X x) (hmx : X.mg x = none) (hgy : Gl X y) (hmy : X.mg y = none) (hvx : bootBuiltins x = some (.type T1)) (hvy : bootBuiltins y = some (.type T2)) (h : LE X W e d)
    (he : starEach [e, .Tuple [.Name x p2, .Name y p3] k tpos] X.env = (false, eval e X.env) :: starEach [.Tuple [.Name x p2, .Name y p3] k tpos] X.env := by rfl) (hnx : x ≠ "__name__" := by decide) (hny : y ≠ "__name__" := by decide)
    (hdx : (x == ("__debug__" : Str)) = false := by decide) (hdy : (y == ("__debug__" : Str)) = false := by decide) : LE X W (.Call (.Name "isinstance" p) [e, .Tuple [.Name x p2, .Name y p3] k tpos] [] pos) (dIsi2 T1 T2 d) :=
  (pe_callB (r := rIsiT X.K) (he := he) call_isiT hg hm PyProof.Rows.boot_isinstance (pa_cons h (pa_cons (pe_tup (pa_cons (pe_bltn (v := .ty T1) hgx hmx hvx rfl hnx hdx) (pa_cons (pe_bltn (v := .ty T2) hgy hmy hvy rfl hny hdy) pa_nil))) pa_nil) he)).imp fun σ H Q ⟨ρ, av, sl, S, hs, hE, g⟩ => ⟨ρ, av, sl, S, hs, hE, GoodE.step g fun t S1 _ v H1 ρ1 e1 s1 r1 g1 => by
    cases hty : tyT S1 (fz t) with
    | none => simp only [hty] at g1; exact g1.elim
    | some n =>
      simp only [hty] at g1
      obtain ⟨_, k2⟩ := ty_rep s1 r1.toV hty
      refine ⟨by show 2 ≤ sizeLine; rw [sizeLine_eq]; omega, fun tp htp => ?_⟩
      have hany : PySem.W.kitAny X.K (.type n) [.type T1, .type T2] = some (isaB n T1 || isaB n T2) := by
        refine kitAny_cons (kit_ty (kit_is k2 hb1)) (fun q1 => kitAny_cons (kit_ty (kit_is k2 hb2)) (fun q2 => ?_) fun q2 => ?_) fun q1 => ?_
        · rw [q1, q2]; rfl
        · rw [q1, q2]; rfl
        · rw [q1]; rfl
      exact ⟨v, tp, [.ty T1, .ty T2], .type n, [.type T1, .type T2], _, rfl, upd_same, .cons (.ty T1) (.cons (.ty T2) .nil), TyX.upd_ s1 r1.toV hty htp, hany, g1 _ _ ρ1 (Ext.laid s1 htp _) (s1.laid htp _) (.bl _)⟩⟩
end
end Dn

/-! a call without arguments -/
namespace Dn
open PySem PySem.Spec L2
def dOwn0 (d : DF) : DE := fun _ S => d [] S
section
variable {X : DX} {W : WX}
theorem le_call0 {k : Nat} {d : DF} {x : Str} {p pos : Pos} (F : Own X.prog X.w X.K X.mg X.base k x [] d) (hr : Room k X.A) (hg : Gl X x) (tk : L2N.Takes X W) (hdb : (x == ("__debug__" : Str)) = false := by decide) : LE X W (.Call (.Name x p) [] [] pos) (dOwn0 d) := by
  obtain ⟨f, fd, h1, h2, h3, h4⟩ := F
  have F2 : OwnK X.prog X.w X.K X.mg X.base k x [] d 0 [] [] := ⟨f, fd, h1, h2, ?_, h4⟩
  · exact (le_callK0 F2 hr hg tk lk_nil rfl rfl rfl hdb rfl rfl).imp fun σ H Q q => q
  · refine { to := fun s us ws hK l1 l2 => ?_, rel := fun {vs us zs ws} _ _ => .nil }
    obtain rfl := List.length_eq_zero_iff.mp l1
    obtain rfl : ws = [] := List.length_eq_zero_iff.mp l2
    exact h3 s [] hK rfl
end
end Dn

namespace Pk
open PySem PySem.Spec L2 Dn
noncomputable def b_put_kind : DS := (dSeq (dSet 4 (dBin fAdd (dBin fAdd (dSl (dBin fIx (dVar 0) (dVar 1)) dNoPart (dPart (dVar 2))) (dTup (dCons (dVar 3) dNil))) (dSl (dBin fIx (dVar 0) (dVar 1)) (dPart (dBin fAdd (dVar 2) (dC (.int 1)))) dNoPart)))
  (dRet (dBin fAdd (dBin fAdd (dSl (dVar 0) dNoPart (dPart (dVar 1))) (dTup (dCons (dVar 4) dNil))) (dSl (dVar 0) (dPart (dBin fAdd (dVar 1) (dC (.int 1)))) dNoPart))))
noncomputable def F_put_kind : DF := dFun 4 5 b_put_kind
def c_STEPS : T := .dic (([("e", .ktup [.int 0, .int 1]), ("n", .ktup [.int (-1), .int 0]), ("s", .ktup [.int 1, .int 0]), ("w", .ktup [.int 0, .int (-1)])] : List (Str × T)).map fun p => (Sum.inr p.1, p.2))
@[simp] theorem fz_c_STEPS : fz c_STEPS = c_STEPS := id rfl
noncomputable def b_next_cell : DS := (dSeq (dAsg (dBin fIx (dC c_STEPS) (dVar 2)) (gT 2 (gsCons (gN 3) (gsCons (gN 4) gsNil))))
  (dRet (dTup (dCons (dBin fAdd (dVar 0) (dVar 3)) (dCons (dBin fAdd (dVar 1) (dVar 4)) dNil)))))
noncomputable def F_next_cell : DF := dFun 3 5 b_next_cell
noncomputable def b_has_cell : DS := (dRet (dAndV (dChain fLE fLT (dC (.int 0)) (dVar 1) (dCall fLen (dCons (dVar 0) dNil))) (dChain fLE fLT (dC (.int 0)) (dVar 2) (dCall fLen (dCons (dBin fIx (dVar 0) (dC (.int 0))) dNil)))))
noncomputable def F_has_cell : DF := dFun 3 3 b_has_cell
noncomputable def b_is_open : DS := (dRet (dAndV (dOwn 3 F_has_cell (dCons (dVar 0) (dCons (dVar 1) (dCons (dVar 2) dNil)))) (dBin (fEq true) (dBin fIx (dBin fIx (dVar 0) (dVar 1)) (dVar 2)) (dC (.str "")))))
noncomputable def F_is_open : DF := dFun 3 3 b_is_open
def c_POINTS : T := .str "ensw"
@[simp] theorem fz_c_POINTS : fz c_POINTS = c_POINTS := id rfl
def c_OPPOSITE : T := .dic (([("e", .str "w"), ("n", .str "s"), ("s", .str "n"), ("w", .str "e")] : List (Str × T)).map fun p => (Sum.inr p.1, p.2))
@[simp] theorem fz_c_OPPOSITE : fz c_OPPOSITE = c_OPPOSITE := id rfl
noncomputable def L_facing_cell_0 : DS := (dSeq (dAsg (dOwn 3 F_next_cell (dCons (dVar 1) (dCons (dVar 2) (dCons (dVar 4) dNil)))) (gT 2 (gsCons (gN 5) (gsCons (gN 6) gsNil))))
  (dIf (dTru (dOwn 3 F_is_open (dCons (dVar 0) (dCons (dVar 5) (dCons (dVar 6) dNil)))))
  (dExpr (dMeth "list" fAppend (dVar 3) (dCons (dTup (dCons (dVar 5) (dCons (dVar 6) (dCons (dBin fIx (dC c_OPPOSITE) (dVar 4)) dNil)))) dNil)))
  dNext))
noncomputable def b_facing_cell : DS := (dSeq (dSetM 3 (dLst dNil))
  (dSeq (dFor (dIt (dC c_POINTS)) (gN 4) L_facing_cell_0)
  (dRet (dCall fTuple (dCons (dCall fSorted (dCons (dVar 3) dNil)) dNil)))))
noncomputable def F_facing_cell : DF := dFun 3 7 b_facing_cell
noncomputable def b_ask_of : DS := (dSeq (dAsg (dVar 1) (gT 3 (gsCons (gN 2) (gsCons (gN 3) (gsCons (gN 4) gsNil)))))
  (dSeq (dIf (dTest (dBin (fEq false) (dVar 2) (dC (.str "out"))))
  (dRet (dTup (dCons (dVar 0) (dCons (dTup (dCons (dVar 3) dNil)) (dCons (dVar 4) dNil)))))
  dNext)
  (dSeq (dIf (dTest (dBin (fEq false) (dVar 2) (dC (.str "meet"))))
  (dRet (dTup (dCons (dVar 0) (dCons (dTup (dCons (dVar 3) dNil)) (dCons (dTup (dCons (dVar 4) dNil)) dNil)))))
  dNext)
  (dRet (dTup (dCons (dOwn 4 F_put_kind (dCons (dVar 0) (dCons (dBin fIx (dVar 4) (dC (.int 0))) (dCons (dBin fIx (dVar 4) (dC (.int 1))) (dCons (dC (.str "")) dNil))))) (dCons (dTup (dCons (dVar 3) dNil)) (dCons (dOwn 3 F_facing_cell (dCons (dVar 0) (dCons (dBin fIx (dVar 4) (dC (.int 0))) (dCons (dBin fIx (dVar 4) (dC (.int 1))) dNil)))) dNil))))))))
noncomputable def F_ask_of : DF := dFun 2 5 b_ask_of
noncomputable def b__law_sort : DS := (dSeq (dSet 1 (dLst (dCons (dBin (fIs false) (dVar 0) (dC .non)) (dCons (dIsi "bool" (dVar 0)) (dCons (dIsi "int" (dVar 0)) (dCons (dIsi "str" (dVar 0)) (dCons (dIsi "tuple" (dVar 0)) (dCons (dIsi "list" (dVar 0)) dNil))))))))
  (dRet (dOrElse (dMeth "str" fIndexS (dBin fAdd (dVar 1) (dLst (dCons (dC (.bl true)) dNil))) (dCons (dC (.bl true)) dNil)) (dMeth "list" fIndexL (dBin fAdd (dVar 1) (dLst (dCons (dC (.bl true)) dNil))) (dCons (dC (.bl true)) dNil)))))
noncomputable def F__law_sort : DF := dFun 1 2 b__law_sort
noncomputable def L__law_same_0 : DS := (dExpr (dMeth "list" fAppend (dVar 2) (dCons (dTup (dCons (dBin fIx (dVar 3) (dVar 6)) (dCons (dBin fIx (dVar 4) (dVar 6)) dNil))) dNil)))
noncomputable def L__law_same_1 : DS := (dSeq (dAsg (dMeth0 "list" fPop (dVar 2)) (gT 2 (gsCons (gN 3) (gsCons (gN 4) gsNil))))
  (dSeq (dSet 5 (dOwn 1 F__law_sort (dCons (dVar 4) dNil)))
  (dSeq (dIf (dTest (dBin (fEq true) (dOwn 1 F__law_sort (dCons (dVar 3) dNil)) (dVar 5)))
  (dRet (dC (.bl false)))
  dNext)
  (dIf (dTest (dBin fLT (dVar 5) (dC (.int 4))))
  (dIf (dTest (dBin (fEq true) (dVar 3) (dVar 4)))
  (dRet (dC (.bl false)))
  dNext)
  (dSeq (dIf (dTest (dBin (fEq true) (dCall fLen (dCons (dVar 3) dNil)) (dCall fLen (dCons (dVar 4) dNil))))
  (dRet (dC (.bl false)))
  dNext)
  (dFor (dRng1 (dCons (dCall fLen (dCons (dVar 4) dNil)) dNil)) (gN 6) L__law_same_0))))))
noncomputable def b__law_same : DS := (dSeq (dSetM 2 (dLst (dCons (dTup (dCons (dVar 0) (dCons (dVar 1) dNil))) dNil)))
  (dSeq (dWhile (dTest (dBin fGT (dCall fLen (dCons (dVar 2) dNil)) (dC (.int 0)))) L__law_same_1)
  (dRet (dC (.bl true)))))
noncomputable def F__law_same : DF := dFun 2 7 b__law_same
noncomputable def b_size_of : DS := (dRet (dTup (dCons (dCall fLen (dCons (dVar 0) dNil)) (dCons (dCall fLen (dCons (dBin fIx (dVar 0) (dC (.int 0))) dNil)) dNil))))
noncomputable def F_size_of : DF := dFun 1 1 b_size_of
noncomputable def L_all_cells_0 : DS := (dExpr (dMeth "list" fAppend (dVar 3) (dCons (dTup (dCons (dVar 4) (dCons (dVar 5) dNil))) dNil)))
noncomputable def L_all_cells_1 : DS := (dFor (dRng1 (dCons (dVar 2) dNil)) (gN 5) L_all_cells_0)
noncomputable def b_all_cells : DS := (dSeq (dAsg (dOwn 1 F_size_of (dCons (dVar 0) dNil)) (gT 2 (gsCons (gN 1) (gsCons (gN 2) gsNil))))
  (dSeq (dSetM 3 (dLst dNil))
  (dSeq (dFor (dRng1 (dCons (dVar 1) dNil)) (gN 4) L_all_cells_1)
  (dRet (dVar 3)))))
noncomputable def F_all_cells : DF := dFun 1 6 b_all_cells
noncomputable def C_cells_of_0 : DE := (dLc (dIt (dOwn 1 F_all_cells (dCons (dVar 0) dNil))) (gT 2 (gsCons (gN 1) (gsCons (gN 2) gsNil))) (dTest (dBin (fEq true) (dBin fIx (dBin fIx (dVar 0) (dVar 1)) (dVar 2)) (dC (.str "")))) (dTup (dCons (dVar 1) (dCons (dVar 2) dNil))) [1, 2])
noncomputable def b_cells_of : DS := (dRet (dCall fTuple (dCons C_cells_of_0 dNil)))
noncomputable def F_cells_of : DF := dFun 1 3 b_cells_of
noncomputable def L_sides_of_0 : DS := (dExpr (dMeth "list" fAppend (dVar 1) (dCons (dTup (dCons (dVar 2) (dCons (dVar 3) (dCons (dVar 4) dNil)))) dNil)))
noncomputable def L_sides_of_1 : DS := (dFor (dIt (dC c_POINTS)) (gN 4) L_sides_of_0)
noncomputable def b_sides_of : DS := (dSeq (dSetM 1 (dLst dNil))
  (dSeq (dFor (dIt (dOwn 1 F_cells_of (dCons (dVar 0) dNil))) (gT 2 (gsCons (gN 2) (gsCons (gN 3) gsNil))) L_sides_of_1)
  (dRet (dCall fTuple (dCons (dVar 1) dNil)))))
noncomputable def F_sides_of : DF := dFun 1 5 b_sides_of
noncomputable def b_other_side : DS := (dSeq (dAsg (dVar 1) (gT 3 (gsCons (gN 2) (gsCons (gN 3) (gsCons (gN 4) gsNil)))))
  (dSeq (dAsg (dOwn 3 F_next_cell (dCons (dVar 2) (dCons (dVar 3) (dCons (dVar 4) dNil)))) (gT 2 (gsCons (gN 5) (gsCons (gN 6) gsNil))))
  (dSeq (dIf (dNot (dTru (dOwn 3 F_is_open (dCons (dVar 0) (dCons (dVar 5) (dCons (dVar 6) dNil))))))
  (dRet (dC .non))
  dNext)
  (dRet (dTup (dCons (dVar 5) (dCons (dVar 6) (dCons (dBin fIx (dC c_OPPOSITE) (dVar 4)) dNil))))))))
noncomputable def F_other_side : DF := dFun 2 7 b_other_side
noncomputable def C_ends_of_0 : DE := (dLc (dIt (dOwn 1 F_sides_of (dCons (dVar 0) dNil))) (gN 1) (dTest (dBin (fIs false) (dOwn 2 F_other_side (dCons (dVar 0) (dCons (dVar 1) dNil))) (dC .non))) (dVar 1) [1])
noncomputable def b_ends_of : DS := (dRet (dCall fTuple (dCons C_ends_of_0 dNil)))
noncomputable def F_ends_of : DF := dFun 1 2 b_ends_of
noncomputable def C_denial_of_0 : DE := (dLc (dIt (dOwn 1 F_ends_of (dCons (dVar 2) dNil))) (gN 6) (dAnd (dTest (dBin (fIn true) (dVar 6) (dVar 3))) (dTest (dBin (fIn true) (dVar 6) (dVar 4)))) (dVar 6) [6])
noncomputable def b_denial_of : DS := (dSeq (dAsg (dOwn 2 F_ask_of (dCons (dVar 0) (dCons (dVar 1) dNil))) (gT 3 (gsCons (gN 2) (gsCons (gN 3) (gsCons (gN 4) gsNil)))))
  (dSeq (dSet 5 C_denial_of_0)
  (dRet (dTup (dCons (dVar 2) (dCons (dVar 3) (dCons (dCall fTuple (dCons (dVar 5) dNil)) dNil)))))))
noncomputable def F_denial_of : DF := dFun 2 7 b_denial_of
noncomputable def b__law_dip : DS := (dSeq (dIf (dTest (dBin fLT (dVar 1) (dC (.int 2))))
  (dRet (dC (.int 0)))
  dNext)
  (dSeq (dIf (dTest (dBin fGT (dCall fLen (dCons (dBin fIx (dVar 0) (dC (.int 1))) dNil)) (dC (.int 0))))
  (dSeq (dSet 2 (dBin (fInt (fun _ j => 0 < j) (· % ·)) (dCall fInt1 (dCons (dBin fIx (dBin fIx (dVar 0) (dC (.int 1))) (dUn fNeg (dC (.int 1)))) dNil)) (dVar 1)))
  (dSeq (dAsg (dBin (fInt CDivW (· / ·)) (dBin fIx (dBin fIx (dVar 0) (dC (.int 1))) (dUn fNeg (dC (.int 1)))) (dVar 1)) (gSubD (dBin fIx (dVar 0) (dC (.int 1))) (dUn fNeg (dC (.int 1)))))
  (dSeq (dIf (dTest (dBin (fEq false) (dBin fIx (dBin fIx (dVar 0) (dC (.int 1))) (dUn fNeg (dC (.int 1)))) (dC (.int 0))))
  (dExpr (dMeth0 "list" fPop (dBin fIx (dVar 0) (dC (.int 1)))))
  dNext)
  (dRet (dVar 2)))))
  dNext)
  (dSeq (dAsg (dBin (fInt (fun _ j => 0 < j) (· % ·)) (dCall fInt1 (dCons (dBin fAdd (dBin fMul (dBin fIx (dVar 0) (dC (.int 0))) (dC (.int 46649))) (dC (.int 5501))) dNil)) (dC (.int 2147483629))) (gSubD (dVar 0) (dC (.int 0))))
  (dRet (dBin (fInt (fun _ j => 0 < j) (· % ·)) (dCall fInt1 (dCons (dBin (fInt CDivW (· / ·)) (dBin fIx (dVar 0) (dC (.int 0))) (dC (.int 53))) dNil)) (dVar 1))))))
noncomputable def F__law_dip : DF := dFun 2 3 b__law_dip
noncomputable def C__law_cells_0 : DE := (dLc (dRng1 (dCons (dCall fLen (dCons (dBin fIx (dVar 0) (dC (.int 0))) dNil)) dNil)) (gN 3) (dTest (dBin (fEq true) (dBin fIx (dBin fIx (dVar 0) (dVar 2)) (dVar 3)) (dC (.str "")))) (dTup (dCons (dVar 2) (dCons (dVar 3) dNil))) [3])
noncomputable def L__law_cells_1 : DS := (dSet 1 (dBin fAdd (dVar 1) C__law_cells_0))
noncomputable def b__law_cells : DS := (dSeq (dSet 1 (dLst dNil))
  (dSeq (dFor (dRng1 (dCons (dCall fLen (dCons (dVar 0) dNil)) dNil)) (gN 2) L__law_cells_1)
  (dRet (dVar 1))))
noncomputable def F__law_cells : DF := dFun 1 4 b__law_cells
noncomputable def C__law_sides_0 : DE := (dLc (dIt (dC (.str "ensw"))) (gN 3) dYes (dBin fAdd (dVar 2) (dTup (dCons (dVar 3) dNil))) [3])
noncomputable def L__law_sides_1 : DS := (dSet 1 (dBin fAdd (dVar 1) C__law_sides_0))
noncomputable def b__law_sides : DS := (dSeq (dSet 1 (dLst dNil))
  (dSeq (dFor (dIt (dOwn 1 F__law_cells (dCons (dVar 0) dNil))) (gN 2) L__law_sides_1)
  (dRet (dVar 1))))
noncomputable def F__law_sides : DF := dFun 1 4 b__law_sides
noncomputable def b__law_beyond : DS := (dSeq (dAsg (dVar 1) (gT 3 (gsCons (gN 2) (gsCons (gN 3) (gsCons (gN 4) gsNil)))))
  (dSeq (dSet 2 (dBin fAdd (dVar 2) (dGet2 (dDisp [((dC (.str "n")), (dUn fNeg (dC (.int 1)))), ((dC (.str "s")), (dC (.int 1)))]) (dVar 4) (dC (.int 0)))))
  (dSeq (dSet 3 (dBin fAdd (dVar 3) (dGet2 (dDisp [((dC (.str "e")), (dC (.int 1))), ((dC (.str "w")), (dUn fNeg (dC (.int 1))))]) (dVar 4) (dC (.int 0)))))
  (dSeq (dIf (dOr (dTest (dBin fLT (dVar 2) (dC (.int 0)))) (dOr (dTest (dBin fLT (dVar 3) (dC (.int 0)))) (dOr (dTest (dBin fGE (dVar 2) (dCall fLen (dCons (dVar 0) dNil)))) (dOr (dTest (dBin fGE (dVar 3) (dCall fLen (dCons (dBin fIx (dVar 0) (dC (.int 0))) dNil)))) (dTest (dBin (fEq false) (dBin fIx (dBin fIx (dVar 0) (dVar 2)) (dVar 3)) (dC (.str ""))))))))
  (dRet (dC .non))
  dNext)
  (dRet (dTup (dCons (dVar 2) (dCons (dVar 3) (dCons (dBin fIx (dDisp [((dC (.str "e")), (dC (.str "w"))), ((dC (.str "w")), (dC (.str "e"))), ((dC (.str "n")), (dC (.str "s"))), ((dC (.str "s")), (dC (.str "n")))]) (dVar 4)) dNil)))))))))
noncomputable def F__law_beyond : DF := dFun 2 5 b__law_beyond
noncomputable def C__law_ends_0 : DE := (dLc (dIt (dOwn 1 F__law_sides (dCons (dVar 0) dNil))) (gN 1) (dTest (dBin (fIs false) (dOwn 2 F__law_beyond (dCons (dVar 0) (dCons (dVar 1) dNil))) (dC .non))) (dVar 1) [1])
noncomputable def b__law_ends : DS := (dRet C__law_ends_0)
noncomputable def F__law_ends : DF := dFun 1 2 b__law_ends
noncomputable def L__law_stirred_0 : DS := (dExpr (dMeth "list" fAppend (dVar 3) (dCons (dMeth "list" fPopAt (dVar 2) (dCons (dOwn 2 F__law_dip (dCons (dVar 0) (dCons (dCall fLen (dCons (dVar 2) dNil)) dNil))) dNil)) dNil)))
noncomputable def b__law_stirred : DS := (dSeq (dSetM 2 (dCall fList (dCons (dVar 1) dNil)))
  (dSeq (dSetM 3 (dLst dNil))
  (dSeq (dWhile (dTest (dBin fGT (dCall fLen (dCons (dVar 2) dNil)) (dC (.int 0)))) L__law_stirred_0)
  (dRet (dVar 3)))))
noncomputable def F__law_stirred : DF := dFun 2 4 b__law_stirred
noncomputable def C__law_shut_0 : DE := (dLc (dRng1 (dCons (dCall fLen (dCons (dBin fIx (dVar 0) (dC (.int 0))) dNil)) dNil)) (gN 4) dYes (dIfE (dTest (dBin (fEq false) (dTup (dCons (dVar 3) (dCons (dVar 4) dNil))) (dVar 1))) (dC (.str "")) (dBin fIx (dBin fIx (dVar 0) (dVar 3)) (dVar 4))) [4])
noncomputable def L__law_shut_1 : DS := (dExpr (dMeth "list" fAppend (dVar 2) (dCons (dCall fTuple (dCons C__law_shut_0 dNil)) dNil)))
noncomputable def b__law_shut : DS := (dSeq (dSetM 2 (dLst dNil))
  (dSeq (dFor (dRng1 (dCons (dCall fLen (dCons (dVar 0) dNil)) dNil)) (gN 3) L__law_shut_1)
  (dRet (dCall fTuple (dCons (dVar 2) dNil)))))
noncomputable def F__law_shut : DF := dFun 2 5 b__law_shut
noncomputable def L__law_ask_0 : DS := (dSeq (dSet 5 (dOwn 2 F__law_beyond (dCons (dVar 0) (dCons (dVar 4) dNil))))
  (dIf (dAnd (dTest (dBin (fIs true) (dVar 5) (dC .non))) (dTest (dBin (fEq false) (dSl (dVar 5) dNoPart (dPart (dC (.int 2)))) (dBin fIx (dVar 1) (dC (.int 2))))))
  (dExpr (dMeth "list" fAppend (dVar 3) (dCons (dVar 4) dNil)))
  dNext))
noncomputable def b__law_ask : DS := (dSeq (dIf (dTest (dBin (fEq false) (dBin fIx (dVar 1) (dC (.int 0))) (dC (.str "out"))))
  (dRet (dTup (dCons (dVar 0) (dCons (dTup (dCons (dBin fIx (dVar 1) (dC (.int 1))) dNil)) (dCons (dBin fIx (dVar 1) (dC (.int 2))) dNil)))))
  dNext)
  (dSeq (dIf (dTest (dBin (fEq false) (dBin fIx (dVar 1) (dC (.int 0))) (dC (.str "meet"))))
  (dRet (dTup (dCons (dVar 0) (dCons (dTup (dCons (dBin fIx (dVar 1) (dC (.int 1))) dNil)) (dCons (dTup (dCons (dBin fIx (dVar 1) (dC (.int 2))) dNil)) dNil)))))
  dNext)
  (dSeq (dSet 2 (dOwn 2 F__law_shut (dCons (dVar 0) (dCons (dBin fIx (dVar 1) (dC (.int 2))) dNil))))
  (dSeq (dSetM 3 (dLst dNil))
  (dSeq (dFor (dIt (dOwn 1 F__law_ends (dCons (dVar 2) dNil))) (gN 4) L__law_ask_0)
  (dRet (dTup (dCons (dVar 2) (dCons (dTup (dCons (dBin fIx (dVar 1) (dC (.int 1))) dNil)) (dCons (dCall fTuple (dCons (dVar 3) dNil)) dNil))))))))))
noncomputable def F__law_ask : DF := dFun 2 6 b__law_ask
noncomputable def C__law_denial_0 : DE := (dLc (dIt (dOwn 1 F__law_ends (dCons (dVar 1) dNil))) (gN 4) (dAnd (dTest (dBin (fIn true) (dVar 4) (dVar 2))) (dTest (dBin (fIn true) (dVar 4) (dVar 3)))) (dVar 4) [4])
noncomputable def b__law_denial : DS := (dSeq (dAsg (dVar 0) (gT 3 (gsCons (gN 1) (gsCons (gN 2) (gsCons (gN 3) gsNil)))))
  (dRet (dTup (dCons (dVar 1) (dCons (dVar 2) (dCons (dCall fTuple (dCons C__law_denial_0 dNil)) dNil))))))
noncomputable def F__law_denial : DF := dFun 1 5 b__law_denial
noncomputable def b__law_right : DS := (dSeq (dSet 2 (dOwn 2 F__law_ask (dCons (dVar 0) (dCons (dVar 1) dNil))))
  (dRet (dAndV (dOwn 2 F__law_same (dCons (dOwn 2 F_ask_of (dCons (dVar 0) (dCons (dVar 1) dNil))) (dCons (dVar 2) dNil))) (dOwn 2 F__law_same (dCons (dOwnK 0 2 [1, 0] 2 F_denial_of dNil (dCons (dVar 1) (dCons (dVar 0) dNil))) (dCons (dOwn 1 F__law_denial (dCons (dVar 2) dNil)) dNil))))))
noncomputable def F__law_right : DF := dFun 2 3 b__law_right
noncomputable def L__law_chest_0 : DS := (dSeq (dSet 4 (dIfE (dTest (dBin fGE (dVar 3) (dC (.int 0)))) (dBin fMul (dC (.int 2)) (dCall fInt1 (dCons (dVar 3) dNil))) (dBin (fInt (fun _ _ => True) (· - ·)) (dC (.int 1)) (dBin fMul (dC (.int 2)) (dCall fInt1 (dCons (dVar 3) dNil))))))
  (dSeq (dSetM 1 (dBin (fInt (fun _ j => 0 < j) (· % ·)) (dCall fInt1 (dCons (dBin fAdd (dBin fAdd (dBin fMul (dVar 1) (dC (.int 69621))) (dBin (fInt (fun _ j => 0 < j) (· % ·)) (dVar 4) (dC (.int 2147483423)))) (dC (.int 73))) dNil)) (dC (.int 2147483423))))
  (dIf (dTest (dBin fGE (dVar 4) (dBin (fInt CPow fun i j => i ^ j.toNat) (dC (.int 10)) (dC (.int 18)))))
  (dExpr (dMeth "list" fAppend (dVar 2) (dCons (dBin (fInt (fun _ j => 0 < j) (· % ·)) (dVar 4) (dBin (fInt CPowW fun i j => i ^ j.toNat) (dBin (fInt CPow fun i j => i ^ j.toNat) (dC (.int 10)) (dC (.int 60))) (dC (.int 9)))) dNil)))
  dNext)))
noncomputable def b__law_chest : DS := (dSeq (dSetM 1 (dC (.int 12119)))
  (dSeq (dSetM 2 (dLst dNil))
  (dSeq (dFor (dIt (dSl (dVar 0) dNoPart (dPart (dC (.int 60))))) (gN 3) L__law_chest_0)
  (dRet (dLst (dCons (dVar 2) (dCons (dVar 1) dNil)))))))
noncomputable def F__law_chest : DF := dFun 1 5 b__law_chest
noncomputable def b__law_pull : DS := (dSeq (dIf (dTest (dBin fLT (dVar 1) (dC (.int 2))))
  (dRet (dC (.int 0)))
  dNext)
  (dSeq (dIf (dTest (dBin fGT (dCall fLen (dCons (dBin fIx (dVar 0) (dC (.int 0))) dNil)) (dC (.int 0))))
  (dSeq (dSet 2 (dCall fInt1 (dCons (dMeth0 "list" fPop (dBin fIx (dVar 0) (dC (.int 0)))) dNil)))
  (dSeq (dIf (dTest (dBin fGE (dVar 2) (dVar 1)))
  (dExpr (dMeth "list" fAppend (dBin fIx (dVar 0) (dC (.int 0))) (dCons (dBin (fInt CDivW (· / ·)) (dVar 2) (dVar 1)) dNil)))
  dNext)
  (dRet (dBin (fInt (fun _ j => 0 < j) (· % ·)) (dVar 2) (dVar 1)))))
  dNext)
  (dSeq (dAsg (dBin (fInt (fun _ j => 0 < j) (· % ·)) (dCall fInt1 (dCons (dBin fAdd (dBin fMul (dBin fIx (dVar 0) (dC (.int 1))) (dC (.int 39373))) (dC (.int 8209))) dNil)) (dC (.int 2147483423))) (gSubD (dVar 0) (dC (.int 1))))
  (dRet (dBin (fInt (fun _ j => 0 < j) (· % ·)) (dCall fInt1 (dCons (dBin (fInt CDivW (· / ·)) (dBin fIx (dVar 0) (dC (.int 1))) (dC (.int 101))) dNil)) (dVar 1))))))
noncomputable def F__law_pull : DF := dFun 2 3 b__law_pull
noncomputable def b__law_from : DS := (dRet (dBin fIx (dVar 1) (dOwn 2 F__law_pull (dCons (dVar 0) (dCons (dCall fLen (dCons (dVar 1) dNil)) dNil)))))
noncomputable def F__law_from : DF := dFun 2 2 b__law_from
noncomputable def L__law_board_v1_0 : DS := (dSeq (dSet 11 (dBin fIx (dVar 3) (dBin fAdd (dC (.int 1)) (dOwn 2 F__law_pull (dCons (dVar 0) (dCons (dC (.int 7)) dNil))))))
  (dSeq (dIf (dAnd (dTest (dBin (fEq false) (dVar 4) (dC (.int 1)))) (dTest (dBin fGT (dOwn 2 F__law_pull (dCons (dVar 0) (dCons (dC (.int 4)) dNil))) (dC (.int 0)))))
  (dSet 11 (dVar 5))
  dNext)
  (dSeq (dIf (dTest (dBin (fEq false) (dVar 4) (dC (.int 2))))
  (dSet 11 (dOwn 2 F__law_from (dCons (dVar 0) (dCons (dTup (dCons (dC (.str "d")) (dCons (dC (.str "u")) (dCons (dC (.str "du")) dNil)))) dNil))))
  dNext)
  (dSeq (dIf (dTest (dBin (fEq false) (dVar 4) (dC (.int 3))))
  (dSet 11 (dC (.str "dsu")))
  dNext)
  (dExpr (dMeth "list" fAppend (dVar 9) (dCons (dIfE (dTest (dBin fLT (dOwn 2 F__law_pull (dCons (dVar 0) (dCons (dC (.int 9)) dNil))) (dVar 6))) (dC (.str "")) (dVar 11)) dNil)))))))
noncomputable def L__law_board_v1_1 : DS := (dSeq (dSetM 9 (dLst dNil))
  (dSeq (dFor (dRng1 (dCons (dVar 2) dNil)) (gN 10) L__law_board_v1_0)
  (dExpr (dMeth "list" fAppend (dVar 7) (dCons (dVar 9) dNil)))))
noncomputable def C__law_board_v1_2 : DE := (dLc (dIt (dVar 7)) (gN 8) dYes (dCall fTuple (dCons (dVar 8) dNil)) [8])
noncomputable def b__law_board_v1 : DS := (dSeq (dSet 3 (dTup (dCons (dC (.str "")) (dCons (dC (.str "d")) (dCons (dC (.str "ds")) (dCons (dC (.str "dsu")) (dCons (dC (.str "du")) (dCons (dC (.str "s")) (dCons (dC (.str "su")) (dCons (dC (.str "u")) dNil))))))))))
  (dSeq (dSet 4 (dOwn 2 F__law_pull (dCons (dVar 0) (dCons (dC (.int 6)) dNil))))
  (dSeq (dSet 5 (dOwn 2 F__law_from (dCons (dVar 0) (dCons (dVar 3) dNil))))
  (dSeq (dSet 6 (dOwn 2 F__law_from (dCons (dVar 0) (dCons (dTup (dCons (dC (.int 0)) (dCons (dC (.int 0)) (dCons (dC (.int 1)) (dCons (dC (.int 4)) dNil))))) dNil))))
  (dSeq (dSetM 7 (dLst dNil))
  (dSeq (dFor (dRng1 (dCons (dVar 1) dNil)) (gN 8) L__law_board_v1_1)
  (dSeq (dSetM 8 (dBin fIx (dVar 7) (dOwn 2 F__law_pull (dCons (dVar 0) (dCons (dVar 1) dNil)))))
  (dSeq (dSet 10 (dOwn 2 F__law_pull (dCons (dVar 0) (dCons (dVar 2) dNil))))
  (dSeq (dIf (dTest (dBin (fEq false) (dBin fIx (dVar 8) (dVar 10)) (dC (.str ""))))
  (dAsg (dBin fIx (dVar 3) (dBin fAdd (dC (.int 1)) (dOwn 2 F__law_pull (dCons (dVar 0) (dCons (dC (.int 7)) dNil))))) (gSubD (dVar 8) (dVar 10)))
  dNext)
  (dRet (dCall fTuple (dCons C__law_board_v1_2 dNil))))))))))))
noncomputable def F__law_board_v1 : DF := dFun 3 12 b__law_board_v1
noncomputable def b__law_whole : DS := (dRet (dAndV (dIsi "int" (dVar 0)) (dNotV (dIsi "bool" (dVar 0)))))
noncomputable def F__law_whole : DF := dFun 1 1 b__law_whole
noncomputable def L__law_same_v1_0 : DS := (dExpr (dMeth "list" fAppend (dVar 2) (dCons (dTup (dCons (dBin fIx (dVar 3) (dVar 5)) (dCons (dBin fIx (dVar 4) (dVar 5)) dNil))) dNil)))
noncomputable def L__law_same_v1_1 : DS := (dSeq (dAsg (dMeth0 "list" fPop (dVar 2)) (gT 2 (gsCons (gN 3) (gsCons (gN 4) gsNil))))
  (dIf (dTest (dBin (fIs false) (dVar 4) (dC .non)))
  (dIf (dTest (dBin (fIs true) (dVar 3) (dC .non)))
  (dRet (dC (.bl false)))
  dNext)
  (dIf (dTru (dIsi "bool" (dVar 4)))
  (dIf (dOr (dNot (dTru (dIsi "bool" (dVar 3)))) (dTest (dBin (fEq true) (dVar 3) (dVar 4))))
  (dRet (dC (.bl false)))
  dNext)
  (dIf (dTru (dIsi "str" (dVar 4)))
  (dIf (dOr (dNot (dTru (dIsi "str" (dVar 3)))) (dTest (dBin (fEq true) (dVar 3) (dVar 4))))
  (dRet (dC (.bl false)))
  dNext)
  (dIf (dTru (dIsi "int" (dVar 4)))
  (dIf (dOr (dNot (dTru (dOwn 1 F__law_whole (dCons (dVar 3) dNil)))) (dTest (dBin (fEq true) (dVar 3) (dVar 4))))
  (dRet (dC (.bl false)))
  dNext)
  (dSeq (dIf (dOr (dAnd (dTru (dIsi "list" (dVar 4))) (dNot (dTru (dIsi "list" (dVar 3))))) (dAnd (dTru (dIsi "tuple" (dVar 4))) (dNot (dTru (dIsi "tuple" (dVar 3))))))
  (dRet (dC (.bl false)))
  dNext)
  (dSeq (dIf (dTest (dBin (fEq true) (dCall fLen (dCons (dVar 3) dNil)) (dCall fLen (dCons (dVar 4) dNil))))
  (dRet (dC (.bl false)))
  dNext)
  (dFor (dRng1 (dCons (dCall fLen (dCons (dVar 4) dNil)) dNil)) (gN 5) L__law_same_v1_0))))))))
noncomputable def b__law_same_v1 : DS := (dSeq (dSetM 2 (dLst (dCons (dTup (dCons (dVar 0) (dCons (dVar 1) dNil))) dNil)))
  (dSeq (dWhile (dTest (dBin fGT (dCall fLen (dCons (dVar 2) dNil)) (dC (.int 0)))) L__law_same_v1_1)
  (dRet (dC (.bl true)))))
noncomputable def F__law_same_v1 : DF := dFun 2 6 b__law_same_v1
def c_LETTERS : T := .str "dsu"
@[simp] theorem fz_c_LETTERS : fz c_LETTERS = c_LETTERS := id rfl
noncomputable def C_kind_of_letters_0 : DE := (dLc (dIt (dC c_LETTERS)) (gN 1) (dTest (dBin (fIn false) (dVar 1) (dVar 0))) (dVar 1) [1])
noncomputable def b_kind_of_letters : DS := (dRet (dMeth "str" fJoin (dC (.str "")) (dCons C_kind_of_letters_0 dNil)))
noncomputable def F_kind_of_letters : DF := dFun 1 2 b_kind_of_letters
def c_EXCHANGED : T := .dic (([("d", .str "u"), ("s", .str "s"), ("u", .str "d"), ("#", .str "#")] : List (Str × T)).map fun p => (Sum.inr p.1, p.2))
@[simp] theorem fz_c_EXCHANGED : fz c_EXCHANGED = c_EXCHANGED := id rfl
noncomputable def C_quarter_of_0 : DE := (dLc (dRng1 (dCons (dCall fLen (dCons (dVar 0) dNil)) dNil)) (gN 3) dYes (dBin fIx (dBin fIx (dVar 0) (dBin (fInt (fun _ _ => True) (· - ·)) (dBin (fInt (fun _ _ => True) (· - ·)) (dCall fLen (dCons (dVar 0) dNil)) (dC (.int 1))) (dVar 3))) (dVar 2)) [3])
noncomputable def C_quarter_of_1 : DE := (dLc (dRng1 (dCons (dVar 1) dNil)) (gN 2) dYes C_quarter_of_0 [2])
noncomputable def b_quarter_of : DS := (dSeq (dSet 1 (dCall fLen (dCons (dBin fIx (dVar 0) (dC (.int 0))) dNil)))
  (dRet C_quarter_of_1))
noncomputable def F_quarter_of : DF := dFun 1 4 b_quarter_of
noncomputable def C_mirror_of_0 : DE := (dLc (dRng1 (dCons (dCall fLen (dCons (dVar 1) dNil)) dNil)) (gN 2) dYes (dBin fIx (dVar 1) (dBin (fInt (fun _ _ => True) (· - ·)) (dBin (fInt (fun _ _ => True) (· - ·)) (dCall fLen (dCons (dVar 1) dNil)) (dC (.int 1))) (dVar 2))) [2])
noncomputable def C_mirror_of_1 : DE := (dLc (dIt (dVar 0)) (gN 1) dYes C_mirror_of_0 [1])
noncomputable def b_mirror_of : DS := (dRet C_mirror_of_1)
noncomputable def F_mirror_of : DF := dFun 1 3 b_mirror_of
noncomputable def C_exchanged_kind_0 : DE := (dLc (dIt (dVar 0)) (gN 1) dYes (dBin fIx (dC c_EXCHANGED) (dVar 1)) [1])
noncomputable def b_exchanged_kind : DS := (dRet (dOwn 1 F_kind_of_letters (dCons C_exchanged_kind_0 dNil)))
noncomputable def F_exchanged_kind : DF := dFun 1 2 b_exchanged_kind
noncomputable def C_as_board_0 : DE := (dLc (dIt (dVar 1)) (gN 2) dYes (dOwn 1 F_exchanged_kind (dCons (dVar 2) dNil)) [2])
noncomputable def C_as_board_1 : DE := (dLc (dIt (dVar 0)) (gN 1) dYes (dCall fTuple (dCons C_as_board_0 dNil)) [1])
noncomputable def b_as_board : DS := (dRet (dCall fTuple (dCons C_as_board_1 dNil)))
noncomputable def F_as_board : DF := dFun 1 3 b_as_board
noncomputable def L_turned_board_0 : DS := (dSet 0 (dOwn 1 F_as_board (dCons (dOwn 1 F_quarter_of (dCons (dVar 0) dNil)) dNil)))
noncomputable def b_turned_board : DS := (dSeq (dFor (dRng1 (dCons (dBin (fInt (fun _ j => 0 < j) (· % ·)) (dVar 1) (dC (.int 4))) dNil)) (gN 2) L_turned_board_0)
  (dRet (dVar 0)))
noncomputable def F_turned_board : DF := dFun 2 3 b_turned_board
noncomputable def b_mirrored_board : DS := (dRet (dOwn 1 F_as_board (dCons (dOwn 1 F_mirror_of (dCons (dVar 0) dNil)) dNil)))
noncomputable def F_mirrored_board : DF := dFun 1 1 b_mirrored_board
noncomputable def L__law_bowl_0 : DS := (dSeq (dSet 4 (dCall fAbs (dCons (dCall fInt1 (dCons (dBin fIx (dVar 0) (dVar 3)) dNil)) dNil)))
  (dSeq (dSet 2 (dBin (fInt (fun _ j => 0 < j) (· % ·)) (dCall fInt1 (dCons (dBin fAdd (dBin fAdd (dBin fMul (dVar 2) (dC (.int 69621))) (dBin fMul (dBin (fInt (fun _ j => 0 < j) (· % ·)) (dVar 4) (dC (.int 999979))) (dC (.int 61)))) (dBin fMul (dC (.int 29)) (dVar 3))) dNil)) (dC (.int 2147483629))))
  (dIf (dTest (dBin fGE (dVar 4) (dBin (fInt CPow fun i j => i ^ j.toNat) (dC (.int 10)) (dC (.int 18)))))
  (dExpr (dMeth "list" fAppend (dVar 1) (dCons (dBin (fInt (fun _ j => 0 < j) (· % ·)) (dVar 4) (dBin fMul (dBin fMul (dBin fMul (dBin fMul (dBin (fInt CPow fun i j => i ^ j.toNat) (dC (.int 10)) (dC (.int 60))) (dBin (fInt CPow fun i j => i ^ j.toNat) (dC (.int 10)) (dC (.int 60)))) (dBin (fInt CPow fun i j => i ^ j.toNat) (dC (.int 10)) (dC (.int 60)))) (dBin (fInt CPow fun i j => i ^ j.toNat) (dC (.int 10)) (dC (.int 60)))) (dBin (fInt CPow fun i j => i ^ j.toNat) (dC (.int 10)) (dC (.int 60))))) dNil)))
  dNext)))
noncomputable def b__law_bowl : DS := (dSeq (dSetM 1 (dLst dNil))
  (dSeq (dSet 2 (dC (.int 6637)))
  (dSeq (dFor (dRng1 (dCons (dCall fMin2 (dCons (dCall fLen (dCons (dVar 0) dNil)) (dCons (dC (.int 59)) dNil))) dNil)) (gN 3) L__law_bowl_0)
  (dRet (dLst (dCons (dVar 1) (dCons (dM (dBin fAdd (dVar 2) (dC (.int 1)))) dNil)))))))
noncomputable def F__law_bowl : DF := dFun 1 5 b__law_bowl
noncomputable def L__law_scoop_0 : DS := (dExpr (dMeth "list" fPopAt (dBin fIx (dVar 0) (dC (.int 0))) (dCons (dC (.int 0)) dNil)))
noncomputable def b__law_scoop : DS := (dSeq (dWhile (dAnd (dTest (dBin fGT (dCall fLen (dCons (dBin fIx (dVar 0) (dC (.int 0))) dNil)) (dC (.int 0)))) (dTest (dBin (fEq false) (dBin fIx (dBin fIx (dVar 0) (dC (.int 0))) (dC (.int 0))) (dC (.int 0))))) L__law_scoop_0)
  (dSeq (dIf (dTest (dBin fGT (dCall fLen (dCons (dBin fIx (dVar 0) (dC (.int 0))) dNil)) (dC (.int 0))))
  (dSeq (dSet 2 (dCall fInt1 (dCons (dBin fIx (dBin fIx (dVar 0) (dC (.int 0))) (dC (.int 0))) dNil)))
  (dSeq (dAsg (dBin (fInt CDivW (· / ·)) (dVar 2) (dVar 1)) (gSubD (dBin fIx (dVar 0) (dC (.int 0))) (dC (.int 0))))
  (dRet (dBin (fInt (fun _ j => 0 < j) (· % ·)) (dVar 2) (dVar 1)))))
  dNext)
  (dSeq (dAsg (dBin (fInt (fun _ j => 0 < j) (· % ·)) (dCall fInt1 (dCons (dBin fAdd (dBin fMul (dBin fIx (dVar 0) (dC (.int 1))) (dC (.int 16807))) (dC (.int 1409))) dNil)) (dC (.int 2147483629))) (gSubD (dVar 0) (dC (.int 1))))
  (dRet (dBin (fInt (fun _ j => 0 < j) (· % ·)) (dCall fInt1 (dCons (dBin (fInt CDivW (· / ·)) (dBin fIx (dVar 0) (dC (.int 1))) (dC (.int 199))) dNil)) (dVar 1))))))
noncomputable def F__law_scoop : DF := dFun 2 3 b__law_scoop
noncomputable def L__law_board_v8_0 : DS := (dSeq (dSet 10 (dOwn 2 F__law_scoop (dCons (dVar 0) (dCons (dC (.int 8)) dNil))))
  (dSeq (dIf (dAnd (dTest (dBin (fEq false) (dVar 4) (dC (.int 1)))) (dTest (dBin (fEq false) (dVar 10) (dC (.int 0)))))
  (dSet 10 (dOwn 2 F__law_scoop (dCons (dVar 0) (dCons (dC (.int 8)) dNil))))
  dNext)
  (dSeq (dIf (dAnd (dTest (dBin (fEq false) (dVar 4) (dC (.int 2)))) (dTest (dBin fGT (dOwn 2 F__law_scoop (dCons (dVar 0) (dCons (dC (.int 4)) dNil))) (dC (.int 0)))))
  (dSet 10 (dVar 5))
  dNext)
  (dSeq (dIf (dTest (dBin (fEq false) (dVar 4) (dC (.int 3))))
  (dSet 10 (dBin fIx (dTup (dCons (dC (.int 1)) (dCons (dC (.int 4)) (dCons (dC (.int 7)) dNil)))) (dOwn 2 F__law_scoop (dCons (dVar 0) (dCons (dC (.int 3)) dNil)))))
  dNext)
  (dSeq (dIf (dTest (dBin (fEq false) (dVar 4) (dC (.int 4))))
  (dSet 10 (dBin fMul (dC (.int 3)) (dCall fInt1 (dCons (dBin fGT (dOwn 2 F__law_scoop (dCons (dVar 0) (dCons (dC (.int 6)) dNil))) (dC (.int 0))) dNil))))
  dNext)
  (dSeq (dIf (dAnd (dTest (dBin (fEq false) (dVar 4) (dC (.int 5)))) (dTest (dBin (fEq false) (dOwn 2 F__law_scoop (dCons (dVar 0) (dCons (dC (.int 2)) dNil))) (dC (.int 0)))))
  (dSet 10 (dC (.int 0)))
  dNext)
  (dExpr (dMeth "list" fAppend (dVar 8) (dCons (dBin fIx (dVar 3) (dVar 10)) dNil)))))))))
noncomputable def L__law_board_v8_1 : DS := (dSeq (dSetM 8 (dLst dNil))
  (dSeq (dFor (dRng1 (dCons (dVar 2) dNil)) (gN 9) L__law_board_v8_0)
  (dExpr (dMeth "list" fAppend (dVar 6) (dCons (dCall fTuple (dCons (dVar 8) dNil)) dNil)))))
noncomputable def C__law_board_v8_2 : DE := (dLc (dIt (dVar 6)) (gN 8) dYes (dMeth "str" fJoin (dC (.str "")) (dCons (dVar 8) dNil)) [8])
noncomputable def b__law_board_v8 : DS := (dSeq (dSet 3 (dLst (dCons (dC (.str "")) (dCons (dC (.str "d")) (dCons (dC (.str "ds")) (dCons (dC (.str "dsu")) (dCons (dC (.str "du")) (dCons (dC (.str "s")) (dCons (dC (.str "su")) (dCons (dC (.str "u")) dNil))))))))))
  (dSeq (dSet 4 (dOwn 2 F__law_scoop (dCons (dVar 0) (dCons (dC (.int 7)) dNil))))
  (dSeq (dSet 5 (dOwn 2 F__law_scoop (dCons (dVar 0) (dCons (dC (.int 8)) dNil))))
  (dSeq (dSetM 6 (dLst dNil))
  (dSeq (dFor (dRng1 (dCons (dVar 1) dNil)) (gN 7) L__law_board_v8_1)
  (dSeq (dIf (dTest (dBin (fEq false) (dMeth "str" fJoin (dC (.str "")) (dCons C__law_board_v8_2 dNil)) (dC (.str ""))))
  (dAsg (dBin fAdd (dTup (dCons (dBin fIx (dVar 3) (dBin fAdd (dC (.int 1)) (dOwn 2 F__law_scoop (dCons (dVar 0) (dCons (dC (.int 7)) dNil))))) dNil)) (dSl (dBin fIx (dVar 6) (dC (.int 0))) (dPart (dC (.int 1))) dNoPart)) (gSubD (dVar 6) (dC (.int 0))))
  dNext)
  (dRet (dCall fTuple (dCons (dVar 6) dNil)))))))))
noncomputable def F__law_board_v8 : DF := dFun 3 11 b__law_board_v8
noncomputable def C__law_same_v3_0 : DE := (dLc (dRng1 (dCons (dCall fLen (dCons (dVar 4) dNil)) dNil)) (gN 5) dYes (dTup (dCons (dBin fIx (dVar 3) (dVar 5)) (dCons (dBin fIx (dVar 4) (dVar 5)) dNil))) [5])
noncomputable def C__law_same_v3_1 : DE := (dLc (dRng1 (dCons (dCall fLen (dCons (dVar 4) dNil)) dNil)) (gN 5) dYes (dTup (dCons (dBin fIx (dVar 3) (dVar 5)) (dCons (dBin fIx (dVar 4) (dVar 5)) dNil))) [5])
noncomputable def L__law_same_v3_2 : DS := (dSeq (dAsg (dMeth0 "list" fPop (dVar 2)) (gT 2 (gsCons (gN 3) (gsCons (gN 4) gsNil))))
  (dIf (dTru (dIsi "tuple" (dVar 4)))
  (dSeq (dIf (dOr (dNot (dTru (dIsi "tuple" (dVar 3)))) (dTest (dBin (fEq true) (dCall fLen (dCons (dVar 3) dNil)) (dCall fLen (dCons (dVar 4) dNil)))))
  (dRet (dC (.bl false)))
  dNext)
  (dSetM 2 (dBin fAdd (dVar 2) C__law_same_v3_0)))
  (dIf (dTru (dIsi "list" (dVar 4)))
  (dSeq (dIf (dOr (dNot (dTru (dIsi "list" (dVar 3)))) (dTest (dBin (fEq true) (dCall fLen (dCons (dVar 3) dNil)) (dCall fLen (dCons (dVar 4) dNil)))))
  (dRet (dC (.bl false)))
  dNext)
  (dSetM 2 (dBin fAdd (dVar 2) C__law_same_v3_1)))
  (dIf (dTest (dBin (fIs false) (dVar 4) (dC .non)))
  (dIf (dTest (dBin (fIs true) (dVar 3) (dC .non)))
  (dRet (dC (.bl false)))
  dNext)
  (dIf (dTru (dIsi "bool" (dVar 4)))
  (dIf (dOr (dNot (dTru (dIsi "bool" (dVar 3)))) (dTest (dBin (fEq true) (dVar 3) (dVar 4))))
  (dRet (dC (.bl false)))
  dNext)
  (dIf (dTru (dIsi "int" (dVar 4)))
  (dIf (dOr (dNot (dTru (dIsi "int" (dVar 3)))) (dOr (dTru (dIsi "bool" (dVar 3))) (dTest (dBin (fEq true) (dVar 3) (dVar 4)))))
  (dRet (dC (.bl false)))
  dNext)
  (dIf (dOr (dNot (dTru (dIsi "str" (dVar 4)))) (dOr (dNot (dTru (dIsi "str" (dVar 3)))) (dTest (dBin (fEq true) (dVar 3) (dVar 4)))))
  (dRet (dC (.bl false)))
  dNext)))))))
noncomputable def b__law_same_v3 : DS := (dSeq (dSetM 2 (dLst (dCons (dTup (dCons (dVar 0) (dCons (dVar 1) dNil))) dNil)))
  (dSeq (dWhile (dTest (dBin fGT (dCall fLen (dCons (dVar 2) dNil)) (dC (.int 0)))) L__law_same_v3_2)
  (dRet (dC (.bl true)))))
noncomputable def F__law_same_v3 : DF := dFun 2 6 b__law_same_v3
noncomputable def L__law_exchanged_v1_0 : DS := (dIf (dTest (dBin (fIn false) (dVar 3) (dVar 0)))
  (dSet 1 (dBin fAdd (dVar 1) (dVar 2)))
  dNext)
noncomputable def b__law_exchanged_v1 : DS := (dSeq (dSet 1 (dC (.str "")))
  (dSeq (dFor (dIt (dTup (dCons (dTup (dCons (dC (.str "d")) (dCons (dC (.str "u")) dNil))) (dCons (dTup (dCons (dC (.str "s")) (dCons (dC (.str "s")) dNil))) (dCons (dTup (dCons (dC (.str "u")) (dCons (dC (.str "d")) dNil))) dNil))))) (gT 2 (gsCons (gN 2) (gsCons (gN 3) gsNil))) L__law_exchanged_v1_0)
  (dRet (dVar 1))))
noncomputable def F__law_exchanged_v1 : DF := dFun 1 4 b__law_exchanged_v1
noncomputable def C__law_mirrored_v1_0 : DE := (dLc (dIt (dUn fRev (dVar 1))) (gN 2) dYes (dOwn 1 F__law_exchanged_v1 (dCons (dVar 2) dNil)) [2])
noncomputable def C__law_mirrored_v1_1 : DE := (dLc (dIt (dVar 0)) (gN 1) dYes (dCall fTuple (dCons C__law_mirrored_v1_0 dNil)) [1])
noncomputable def b__law_mirrored_v1 : DS := (dRet (dCall fTuple (dCons C__law_mirrored_v1_1 dNil)))
noncomputable def F__law_mirrored_v1 : DF := dFun 1 3 b__law_mirrored_v1
noncomputable def C__law_turned_v1_0 : DE := (dLc (dRng1 (dCons (dVar 1) dNil)) (gN 4) dYes (dOwn 1 F__law_exchanged_v1 (dCons (dBin fIx (dBin fIx (dVar 0) (dBin (fInt (fun _ _ => True) (· - ·)) (dBin (fInt (fun _ _ => True) (· - ·)) (dVar 1) (dC (.int 1))) (dVar 4))) (dVar 3)) dNil)) [4])
noncomputable def L__law_turned_v1_1 : DS := (dExpr (dMeth "list" fAppend (dVar 2) (dCons (dCall fTuple (dCons C__law_turned_v1_0 dNil)) dNil)))
noncomputable def b__law_turned_v1 : DS := (dSeq (dSet 1 (dCall fLen (dCons (dVar 0) dNil)))
  (dSeq (dSetM 2 (dLst dNil))
  (dSeq (dFor (dRng1 (dCons (dCall fLen (dCons (dBin fIx (dVar 0) (dC (.int 0))) dNil)) dNil)) (gN 3) L__law_turned_v1_1)
  (dRet (dCall fTuple (dCons (dVar 2) dNil))))))
noncomputable def F__law_turned_v1 : DF := dFun 1 5 b__law_turned_v1
noncomputable def L__law_eight_0 : DS := (dSeq (dExpr (dMeth "list" fAppend (dVar 1) (dCons (dVar 3) dNil)))
  (dSet 3 (dOwn 1 F__law_turned_v1 (dCons (dVar 3) dNil))))
noncomputable def L__law_eight_1 : DS := (dSeq (dSet 3 (dVar 2))
  (dFor (dRng1 (dCons (dC (.int 4)) dNil)) (gN 4) L__law_eight_0))
noncomputable def b__law_eight : DS := (dSeq (dSetM 1 (dLst dNil))
  (dSeq (dFor (dIt (dTup (dCons (dVar 0) (dCons (dOwn 1 F__law_mirrored_v1 (dCons (dVar 0) dNil)) dNil)))) (gN 2) L__law_eight_1)
  (dRet (dVar 1))))
noncomputable def F__law_eight : DF := dFun 1 5 b__law_eight
noncomputable def b_moved_board : DS := (dRet (dOwn 2 F_turned_board (dCons (dIfE (dTru (dVar 1)) (dOwn 1 F_mirrored_board (dCons (dVar 0) dNil)) (dVar 0)) (dCons (dVar 2) dNil))))
noncomputable def F_moved_board : DF := dFun 3 3 b_moved_board
def c_WAYS : T := .ktup [.ktup [.bl false, .int 0], .ktup [.bl false, .int 1], .ktup [.bl false, .int 2], .ktup [.bl false, .int 3], .ktup [.bl true, .int 0], .ktup [.bl true, .int 1], .ktup [.bl true, .int 2], .ktup [.bl true, .int 3]]
@[simp] theorem fz_c_WAYS : fz c_WAYS = c_WAYS := id rfl
noncomputable def C_eight_boards_0 : DE := (dLc (dIt (dC c_WAYS)) (gT 2 (gsCons (gN 1) (gsCons (gN 2) gsNil))) dYes (dOwn 3 F_moved_board (dCons (dVar 0) (dCons (dVar 1) (dCons (dVar 2) dNil)))) [1, 2])
noncomputable def b_eight_boards : DS := (dRet (dCall fTuple (dCons C_eight_boards_0 dNil)))
noncomputable def F_eight_boards : DF := dFun 1 3 b_eight_boards
noncomputable def b_symmetry_count : DS := (dRet (dCountT (dOwn 1 F_eight_boards (dCons (dVar 0) dNil)) (dCons (dVar 0) dNil)))
noncomputable def F_symmetry_count : DF := dFun 1 1 b_symmetry_count
noncomputable def L_likeness_0 : DS := (dIf (dTest (dBin (fEq false) (dOwn 3 F_moved_board (dCons (dVar 0) (dCons (dVar 2) (dCons (dVar 3) dNil)))) (dVar 1)))
  (dRet (dTup (dCons (dVar 2) (dCons (dVar 3) dNil))))
  dNext)
noncomputable def b_likeness : DS := (dSeq (dFor (dIt (dC c_WAYS)) (gT 2 (gsCons (gN 2) (gsCons (gN 3) gsNil))) L_likeness_0)
  (dRet (dC .non)))
noncomputable def F_likeness : DF := dFun 2 4 b_likeness
noncomputable def b_least_form : DS := (dRet (dCall fMin1 (dCons (dOwn 1 F_eight_boards (dCons (dVar 0) dNil)) dNil)))
noncomputable def F_least_form : DF := dFun 1 1 b_least_form
noncomputable def L__law_alone_0 : DS := (dIf (dTest (dBin fLTD (dVar 3) (dVar 2)))
  (dSet 2 (dVar 3))
  dNext)
noncomputable def C__law_alone_1 : DE := (dLc (dIt (dVar 1)) (gN 3) (dTest (dBin (fEq false) (dVar 3) (dVar 0))) (dC (.int 1)) [3])
noncomputable def b__law_alone : DS := (dSeq (dSet 1 (dOwn 1 F__law_eight (dCons (dVar 0) dNil)))
  (dSeq (dSet 2 (dBin fIx (dVar 1) (dC (.int 0))))
  (dSeq (dFor (dIt (dVar 1)) (gN 3) L__law_alone_0)
  (dSeq (dSet 4 (dCall fLen (dCons C__law_alone_1 dNil)))
  (dSeq (dIf (dOr (dNot (dTru (dOwn 2 F__law_same_v3 (dCons (dOwn 1 F_eight_boards (dCons (dVar 0) dNil)) (dCons (dCall fTuple (dCons (dVar 1) dNil)) dNil))))) (dNot (dTru (dOwn 2 F__law_same_v3 (dCons (dOwn 1 F_least_form (dCons (dVar 0) dNil)) (dCons (dVar 2) dNil))))))
  (dRet (dC (.bl false)))
  dNext)
  (dRet (dAndV (dOwn 2 F__law_same_v3 (dCons (dOwn 1 F_symmetry_count (dCons (dVar 0) dNil)) (dCons (dVar 4) dNil))) (dOwn 2 F__law_same_v3 (dCons (dOwn 2 F_likeness (dCons (dVar 0) (dCons (dVar 0) dNil))) (dCons (dTup (dCons (dC (.bl false)) (dCons (dC (.int 0)) dNil))) dNil))))))))))
noncomputable def F__law_alone : DF := dFun 1 5 b__law_alone
noncomputable def C__law_changed_0 : DE := (dLc (dIt (dVar 8)) (gN 9) dYes (dMeth "str" fJoin (dC (.str "")) (dCons (dVar 9) dNil)) [9])
noncomputable def b__law_changed : DS := (dSeq (dSet 2 (dLst (dCons (dC (.str "")) (dCons (dC (.str "d")) (dCons (dC (.str "ds")) (dCons (dC (.str "dsu")) (dCons (dC (.str "du")) (dCons (dC (.str "s")) (dCons (dC (.str "su")) (dCons (dC (.str "u")) dNil))))))))))
  (dSeq (dSet 3 (dOwn 2 F__law_scoop (dCons (dVar 0) (dCons (dCall fLen (dCons (dVar 1) dNil)) dNil))))
  (dSeq (dSet 4 (dOwn 2 F__law_scoop (dCons (dVar 0) (dCons (dCall fLen (dCons (dBin fIx (dVar 1) (dC (.int 0))) dNil)) dNil))))
  (dSeq (dSetM 5 (dBin fIx (dVar 1) (dVar 3)))
  (dSeq (dIf (dTest (dBin (fEq false) (dOwn 2 F__law_scoop (dCons (dVar 0) (dCons (dC (.int 3)) dNil))) (dC (.int 0))))
  (dSeq (dSet 6 (dOwn 2 F__law_scoop (dCons (dVar 0) (dCons (dCall fLen (dCons (dVar 5) dNil)) dNil))))
  (dSeq (dSetM 5 (dCall fList (dCons (dVar 5) dNil)))
  (dSeq (dAsg (dTup (dCons (dBin fIx (dVar 5) (dVar 6)) (dCons (dBin fIx (dVar 5) (dVar 4)) dNil))) (gT 2 (gsCons (gSubD (dVar 5) (dVar 4)) (gsCons (gSubD (dVar 5) (dVar 6)) gsNil))))
  (dRet (dBin fAdd (dBin fAdd (dSl (dVar 1) dNoPart (dPart (dVar 3))) (dTup (dCons (dCall fTuple (dCons (dVar 5) dNil)) dNil))) (dSl (dVar 1) (dPart (dBin fAdd (dVar 3) (dC (.int 1)))) dNoPart))))))
  dNext)
  (dSeq (dSet 7 (dBin fIx (dVar 2) (dOwn 2 F__law_scoop (dCons (dVar 0) (dCons (dC (.int 8)) dNil)))))
  (dSeq (dSet 8 (dBin fAdd (dBin fAdd (dSl (dVar 1) dNoPart (dPart (dVar 3))) (dTup (dCons (dBin fAdd (dBin fAdd (dSl (dVar 5) dNoPart (dPart (dVar 4))) (dTup (dCons (dVar 7) dNil))) (dSl (dVar 5) (dPart (dBin fAdd (dVar 4) (dC (.int 1)))) dNoPart)) dNil))) (dSl (dVar 1) (dPart (dBin fAdd (dVar 3) (dC (.int 1)))) dNoPart)))
  (dRet (dIfE (dTest (dBin (fEq false) (dMeth "str" fJoin (dC (.str "")) (dCons C__law_changed_0 dNil)) (dC (.str "")))) (dVar 1) (dVar 8))))))))))
noncomputable def F__law_changed : DF := dFun 2 10 b__law_changed
noncomputable def L__law_likeness_0 : DS := (dIf (dTest (dBin (fEq false) (dBin fIx (dVar 2) (dVar 3)) (dVar 1)))
  (dRet (dTup (dCons (dBin fGT (dVar 3) (dC (.int 3))) (dCons (dBin (fInt (fun _ j => 0 < j) (· % ·)) (dCall fInt1 (dCons (dVar 3) dNil)) (dC (.int 4))) dNil))))
  dNext)
noncomputable def b__law_likeness : DS := (dSeq (dSet 2 (dOwn 1 F__law_eight (dCons (dVar 0) dNil)))
  (dSeq (dFor (dRng1 (dCons (dC (.int 8)) dNil)) (gN 3) L__law_likeness_0)
  (dRet (dC .non))))
noncomputable def F__law_likeness : DF := dFun 2 4 b__law_likeness
noncomputable def b_are_alike : DS := (dRet (dBin (fEq false) (dOwn 1 F_least_form (dCons (dVar 0) dNil)) (dOwn 1 F_least_form (dCons (dVar 1) dNil))))
noncomputable def F_are_alike : DF := dFun 2 2 b_are_alike
noncomputable def b__law_asked_v4 : DS := (dSeq (dSet 2 (dOwn 2 F__law_likeness (dCons (dVar 0) (dCons (dVar 1) dNil))))
  (dSeq (dIf (dOr (dNot (dTru (dOwn 2 F__law_same_v3 (dCons (dOwn 2 F_likeness (dCons (dVar 0) (dCons (dVar 1) dNil))) (dCons (dVar 2) dNil))))) (dNot (dTru (dOwn 2 F__law_same_v3 (dCons (dOwn 2 F_are_alike (dCons (dVar 0) (dCons (dVar 1) dNil))) (dCons (dBin (fIs true) (dVar 2) (dC .non)) dNil))))))
  (dRet (dC (.bl false)))
  dNext)
  (dRet (dAndV (dOwn 2 F__law_same_v3 (dCons (dOwn 2 F_are_alike (dCons (dVar 1) (dCons (dVar 0) dNil))) (dCons (dBin (fIs true) (dVar 2) (dC .non)) dNil))) (dOwn 2 F__law_same_v3 (dCons (dOwn 2 F_likeness (dCons (dVar 1) (dCons (dVar 0) dNil))) (dCons (dOwn 2 F__law_likeness (dCons (dVar 1) (dCons (dVar 0) dNil))) dNil)))))))
noncomputable def F__law_asked_v4 : DF := dFun 2 3 b__law_asked_v4
noncomputable def L__law_scene_0 : DS := (dIf (dNot (dTru (dOwn 2 F__law_asked_v4 (dCons (dVar 1) (dCons (dVar 4) dNil)))))
  (dRet (dC (.bl false)))
  dNext)
noncomputable def b__law_scene : DS := (dSeq (dIf (dNot (dTru (dOwn 1 F__law_alone (dCons (dVar 1) dNil))))
  (dRet (dC (.bl false)))
  dNext)
  (dSeq (dSet 2 (dOwn 1 F__law_eight (dCons (dVar 1) dNil)))
  (dSeq (dSet 3 (dOwn 2 F__law_scoop (dCons (dVar 0) (dCons (dC (.int 8)) dNil))))
  (dSeq (dIf (dOr (dNot (dTru (dOwn 2 F__law_asked_v4 (dCons (dVar 1) (dCons (dBin fIx (dVar 2) (dVar 3)) dNil))))) (dNot (dTru (dOwn 1 F__law_alone (dCons (dBin fIx (dVar 2) (dVar 3)) dNil)))))
  (dRet (dC (.bl false)))
  dNext)
  (dSeq (dFor (dIt (dTup (dCons (dOwn 2 F__law_changed (dCons (dVar 0) (dCons (dBin fIx (dVar 2) (dVar 3)) dNil))) (dCons (dOwn 2 F__law_changed (dCons (dVar 0) (dCons (dVar 1) dNil))) (dCons (dOwn 3 F__law_board_v8 (dCons (dVar 0) (dCons (dCall fLen (dCons (dVar 1) dNil)) (dCons (dCall fLen (dCons (dBin fIx (dVar 1) (dC (.int 0))) dNil)) dNil)))) dNil))))) (gN 4) L__law_scene_0)
  (dRet (dIfE (dTest (dBin fLT (dCall fLen (dCons (dVar 1) dNil)) (dC (.int 8)))) (dOwn 2 F__law_asked_v4 (dCons (dVar 1) (dCons (dBin fAdd (dVar 1) (dSl (dVar 1) dNoPart (dPart (dC (.int 1))))) dNil))) (dC (.bl true)))))))))
noncomputable def F__law_scene : DF := dFun 2 5 b__law_scene
noncomputable def C__law_even_0 : DE := (dLc (dIt (dSl (dVar 1) dNoPart (dPart (dC (.int 4))))) (gN 6) dYes (dSl (dVar 6) dNoPart (dPart (dC (.int 4)))) [6])
noncomputable def C__law_even_1 : DE := (dLc (dIt (dVar 3)) (gN 6) dYes (dMeth "str" fJoin (dC (.str "")) (dCons (dVar 6) dNil)) [6])
noncomputable def C__law_even_2 : DE := (dLc (dRng1 (dCons (dCall fLen (dCons (dVar 3) dNil)) dNil)) (gN 7) dYes (dBin fAdd (dBin fIx (dVar 3) (dVar 7)) (dBin fIx (dOwn 1 F__law_mirrored_v1 (dCons (dVar 3) dNil)) (dVar 7))) [7])
noncomputable def b__law_even : DS := (dSeq (dSet 2 (dOwn 2 F__law_scoop (dCons (dVar 0) (dCons (dC (.int 4)) dNil))))
  (dSeq (dSet 3 (dCall fTuple (dCons C__law_even_0 dNil)))
  (dSeq (dIf (dTest (dBin (fEq false) (dMeth "str" fJoin (dC (.str "")) (dCons C__law_even_1 dNil)) (dC (.str ""))))
  (dRet (dTup (dCons (dTup (dCons (dC (.str "dsu")) (dCons (dC (.str "du")) dNil))) (dCons (dTup (dCons (dC (.str "du")) (dCons (dC (.str "dsu")) dNil))) dNil))))
  dNext)
  (dSeq (dIf (dTest (dBin (fEq false) (dVar 2) (dC (.int 0))))
  (dRet (dCall fTuple (dCons C__law_even_2 dNil)))
  dNext)
  (dSeq (dIf (dTest (dBin (fEq false) (dVar 2) (dC (.int 1))))
  (dRet (dBin fAdd (dVar 3) (dOwn 1 F__law_turned_v1 (dCons (dOwn 1 F__law_turned_v1 (dCons (dOwn 1 F__law_mirrored_v1 (dCons (dVar 3) dNil)) dNil)) dNil))))
  dNext)
  (dSeq (dSet 4 (dOwn 1 F__law_turned_v1 (dCons (dOwn 1 F__law_turned_v1 (dCons (dVar 3) dNil)) dNil)))
  (dSeq (dIf (dTest (dBin (fEq false) (dVar 2) (dC (.int 2))))
  (dRet (dBin fAdd (dVar 3) (dVar 4)))
  dNext)
  (dSeq (dSet 5 (dBin fIx (dTup (dCons (dC (.str "dsu")) (dCons (dC (.str "du")) (dCons (dC (.str "s")) (dCons (dC (.str "ds")) dNil))))) (dOwn 2 F__law_scoop (dCons (dVar 0) (dCons (dC (.int 4)) dNil)))))
  (dRet (dBin fMul (dTup (dCons (dBin fMul (dTup (dCons (dVar 5) dNil)) (dCall fLen (dCons (dBin fIx (dVar 3) (dC (.int 0))) dNil))) dNil)) (dCall fLen (dCons (dVar 3) dNil))))))))))))
noncomputable def F__law_even : DF := dFun 2 8 b__law_even
noncomputable def L_law_v10_0 : DS := (dSeq (dSet 3 (dOwn 3 F__law_board_v8 (dCons (dVar 1) (dCons (dBin fAdd (dC (.int 1)) (dOwn 2 F__law_scoop (dCons (dVar 1) (dCons (dC (.int 5)) dNil)))) (dCons (dBin fAdd (dC (.int 1)) (dOwn 2 F__law_scoop (dCons (dVar 1) (dCons (dC (.int 5)) dNil)))) dNil)))))
  (dIf (dOr (dNot (dTru (dOwn 2 F__law_scene (dCons (dVar 1) (dCons (dVar 3) dNil))))) (dNot (dTru (dOwn 1 F__law_alone (dCons (dOwn 2 F__law_even (dCons (dVar 1) (dCons (dVar 3) dNil))) dNil)))))
  (dRet (dC (.bl false)))
  dNext))
noncomputable def b_law_v10 : DS := (dSeq (dSetM 1 (dOwn 1 F__law_bowl (dCons (dVar 0) dNil)))
  (dSeq (dFor (dRng1 (dCons (dC (.int 2)) dNil)) (gN 2) L_law_v10_0)
  (dSeq (dSet 4 (dBin fIx (dC (.str "du")) (dOwn 2 F__law_scoop (dCons (dVar 1) (dCons (dC (.int 2)) dNil)))))
  (dSeq (dSet 5 (dBin fIx (dC (.str "ud")) (dOrElse (dIndexT (dC (.str "du")) (dCons (dVar 4) dNil)) (dOrElse (dMeth "str" fIndexS (dC (.str "du")) (dCons (dVar 4) dNil)) (dMeth "list" fIndexL (dC (.str "du")) (dCons (dVar 4) dNil))))))
  (dSeq (dIf (dNot (dTru (dOwn 2 F__law_same_v3 (dCons (dOwnK 0 2 [0, 1] 2 F_likeness dNil (dCons (dTup (dCons (dTup (dCons (dVar 4) (dCons (dC (.str "s")) dNil))) dNil)) (dCons (dTup (dCons (dTup (dCons (dVar 5) dNil)) (dCons (dTup (dCons (dC (.str "s")) dNil)) dNil))) dNil))) (dCons (dTup (dCons (dC (.bl false)) (dCons (dC (.int 1)) dNil))) dNil)))))
  (dRet (dC (.bl false)))
  dNext)
  (dSeq (dIf (dOr (dNot (dTru (dOwn 2 F__law_same_v3 (dCons (dBin fIx (dOwnK 0 1 [0] 1 F_eight_boards dNil (dCons (dTup (dCons (dTup (dCons (dVar 4) (dCons (dC (.str "s")) dNil))) dNil)) dNil)) (dC (.int 2))) (dCons (dTup (dCons (dTup (dCons (dC (.str "s")) (dCons (dVar 4) dNil))) dNil)) dNil))))) (dTest (dBin (fEq true) (dOwn 1 F_symmetry_count (dCons (dTup (dCons (dTup (dCons (dVar 4) (dCons (dC (.str "")) dNil))) dNil)) dNil)) (dC (.int 1)))))
  (dRet (dC (.bl false)))
  dNext)
  (dSeq (dIf (dNot (dTru (dOwn 2 F__law_same_v3 (dCons (dOwnK 0 2 [0, 1] 2 F_are_alike dNil (dCons (dTup (dCons (dTup (dCons (dVar 4) (dCons (dC (.str "s")) dNil))) dNil)) (dCons (dTup (dCons (dTup (dCons (dC (.str "s")) (dCons (dVar 4) dNil))) (dCons (dTup (dCons (dC (.str "")) (dCons (dC (.str "")) dNil))) dNil))) dNil))) (dCons (dC (.bl false)) dNil)))))
  (dRet (dC (.bl false)))
  dNext)
  (dSeq (dIf (dOr (dNot (dTru (dOwn 2 F__law_same_v3 (dCons (dOwnK 0 1 [0] 1 F_symmetry_count dNil (dCons (dBin fMul (dTup (dCons (dBin fMul (dTup (dCons (dC (.str "dsu")) dNil)) (dC (.int 4))) dNil)) (dC (.int 4))) dNil)) (dCons (dC (.int 8)) dNil))))) (dNot (dTru (dOwn 2 F__law_same_v3 (dCons (dOwnK 0 1 [0] 1 F_least_form dNil (dCons (dTup (dCons (dTup (dCons (dVar 5) (dCons (dC (.str "")) dNil))) dNil)) dNil)) (dCons (dTup (dCons (dTup (dCons (dC (.str "")) dNil)) (dCons (dTup (dCons (dC (.str "d")) dNil)) dNil))) dNil))))))
  (dRet (dC (.bl false)))
  dNext)
  (dRet (dOrV (dBin (fEq true) (dOwn 2 F__law_scoop (dCons (dVar 1) (dCons (dC (.int 7)) dNil))) (dC (.int 4))) (dOwn 2 F__law_scene (dCons (dVar 1) (dCons (dOwn 3 F__law_board_v8 (dCons (dVar 1) (dCons (dC (.int 8)) (dCons (dBin fAdd (dC (.int 7)) (dOwn 2 F__law_scoop (dCons (dVar 1) (dCons (dC (.int 2)) dNil)))) dNil)))) dNil)))))))))))))
noncomputable def F_law_v10 : DF := dFun 1 6 b_law_v10
end Pk
/-! boards, cells, sides, in plain words; what the package's first defs tell of them -/
namespace Bd
open PySem PySem.Spec L2 Dn Pk

inductive Pt where
  | e | n | s | w
deriving DecidableEq
namespace Pt
def str : Pt → Str
  | e => "e" | n => "n" | s => "s" | w => "w"
def dn : Pt → Int
  | e => 0 | n => -1 | s => 1 | w => 0
def rt : Pt → Int
  | e => 1 | n => 0 | s => 0 | w => -1
def opp : Pt → Pt
  | e => w | n => s | s => n | w => e
def all : List Pt := [e, n, s, w]
theorem mem_all (p : Pt) : p ∈ all := by cases p <;> simp [all]
theorem str_inj {p q : Pt} : p.str = q.str ↔ p = q := by
  constructor
  · intro h
    revert h
    cases p <;> cases q <;> decide
  · intro h; rw [h]
end Pt
abbrev Brd := List (List Str)
abbrev Cell := Nat × Nat
abbrev Side := Nat × Nat × Pt
def eR (r : List Str) : T := .tup (r.map .str)
def eB (b : Brd) : T := .tup (b.map eR)
def eC (c : Cell) : T := .tup [.int c.1, .int c.2]
def eS (s : Side) : T := .tup [.int s.1, .int s.2.1, .str s.2.2.str]
@[simp] theorem lt_eC (n : Nat) (c : Cell) : (eC c).lt n = true := by simp [eC]
@[simp] theorem lt_eS (n : Nat) (c : Side) : (eS c).lt n = true := by simp [eS]
@[simp] theorem lt_eB (n : Nat) (b : Brd) : (eB b).lt n = true := by
  simp only [eB, lt_tup]
  refine ltsM fun r _ => ?_
  simp only [eR, lt_tup]
  exact ltsM fun _ _ => rfl
@[simp] theorem fz_eC (c : Cell) : fz (eC c) = eC c := id rfl
@[simp] theorem fz_eS (c : Side) : fz (eS c) = eS c := id rfl
@[simp] theorem fz_eR (c : List Str) : fz (eR c) = eR c := id rfl
@[simp] theorem fz_eB (c : Brd) : fz (eB c) = eB c := id rfl
def row (b : Brd) (r : Nat) : List Str := b[r]?.getD []
def wd (b : Brd) : Nat := (row b 0).length
theorem wd0 (b : Brd) : (row b 0).length = wd b := rfl
def at_ (b : Brd) (r c : Nat) : Str := (row b r)[c]?.getD ""
/-- a board -/
structure WB (b : Brd) : Prop where
  rows : 0 < b.length
  few : b.length ≤ 100
  rect : ∀ r ∈ b, r.length = wd b
  cols : 0 < wd b
  fewc : wd b ≤ 100
section
variable {b : Brd} {S : Sto} (W : WB b)
include W
theorem row0 : atI (b.map eR) 0 = some (eR (row b 0)) := by
  have := W.rows
  unfold row
  rw [atI_0, List.getElem?_map, List.getElem?_eq_getElem this]
  simp
theorem ix_row {r : Nat} (h : r < b.length) : fIx (eB b) (.int r) S = .ok (eR (row b r)) S := by
  unfold eB row
  rw [fIx_tup, atI_n, List.getElem?_map, List.getElem?_eq_getElem h]
  simp
theorem len_row {r : Nat} (h : r < b.length) : (row b r).length = wd b := by
  unfold row
  rw [List.getElem?_eq_getElem h]
  exact W.rect _ (List.getElem_mem h)
theorem ix_cell {r c : Nat} (h : r < b.length) (hc : c < wd b) : fIx (eR (row b r)) (.int c) S = .ok (.str (at_ b r c)) S := by
  have hl := len_row W h
  unfold eR
  rw [fIx_tup, atI_n, List.getElem?_map]
  unfold at_
  rw [List.getElem?_eq_getElem (by rw [hl]; exact hc)]
  simp
omit W in
@[simp] theorem len_eB : fLen [eB b] S = .ok (.int b.length) S := by simp [eB]
omit W in
@[simp] theorem len_eR {r : List Str} : fLen [eR r] S = .ok (.int r.length) S := by simp [eR]
theorem ix_row0 : fIx (eB b) (.int 0) S = .ok (eR (row b 0)) S := ix_row W (r := 0) W.rows
/-- a cell that light can lie in -/
def open' (b : Brd) (r c : Int) : Bool := (decide (0 ≤ r) && decide (r < b.length)) && (decide (0 ≤ c) && decide (c < wd b)) && decide (at_ b r.toNat c.toNat ≠ "")
theorem has_cell_ok {r c : Int} : F_has_cell [eB b, .int r, .int c] S = .ok (.bl ((decide (0 ≤ r) && decide (r < b.length)) && (decide (0 ≤ c) && decide (c < wd b)))) S := by
  simp only [F_has_cell, dFun_eq (np := 3) (n := 3) (ts := [eB b, T.int r, T.int c]) rfl, b_has_cell]
  by_cases h1 : 0 ≤ r
  · by_cases h2 : r < b.length
    · by_cases h3 : 0 ≤ c
      · simp [h1, h2, h3, ix_row0 W, wd0]
        rw [gcT_same (by simp)]
      · simp [h1, h2, h3, ix_row0 W]
        rw [gcT_same (by simp)]
    · simp [h1, h2]
      rw [gcT_same (by simp)]
  · simp [h1]
    rw [gcT_same (by simp)]
theorem is_open_ok {r c : Int} : F_is_open [eB b, .int r, .int c] S = .ok (.bl (open' b r c)) S := by
  simp only [F_is_open, dFun_eq (np := 3) (n := 3) (ts := [eB b, T.int r, T.int c]) rfl, b_is_open]
  unfold open'
  cases hb : (decide (0 ≤ r) && decide (r < b.length)) && (decide (0 ≤ c) && decide (c < wd b)) with
  | false =>
    simp [has_cell_ok W, hb]
    rw [gcT_same (by simp)]
  | true =>
    have hb' := hb
    simp only [Bool.and_eq_true, decide_eq_true_eq] at hb'
    obtain ⟨⟨h1, h2⟩, h3, h4⟩ := hb'
    obtain ⟨r', rfl⟩ := Int.eq_ofNat_of_zero_le h1
    obtain ⟨c', rfl⟩ := Int.eq_ofNat_of_zero_le h3
    simp only [dRet_eq, dAndV_eq, dOwn_eq, dCons_eq, dVar_eq, dNil_eq, RE.consA_ok, RA.cons_ok, RA.bind_ok, fz_eB, fz_int, has_cell_ok W, hb]
    have h2' : r' < b.length := by omega
    have h4' : c' < wd b := by omega
    simp [has_cell_ok W, hb, ix_row W (r := r') (by omega), ix_cell W (r := r') (c := c') (by omega) (by omega), h2', h4']
    rw [gcT_same (by simp)]
omit W in
theorem steps (p : Pt) : fIx c_STEPS (.str p.str) S = .ok (.ktup [.int p.dn, .int p.rt]) S := by cases p <;> rfl
omit W in
theorem opps (p : Pt) : fIx c_OPPOSITE (.str p.str) S = .ok (.str p.opp.str) S := by cases p <;> rfl
omit W in
theorem next_cell_ok {r c : Int} {p : Pt} : F_next_cell [.int r, .int c, .str p.str] S = .ok (.tup [.int (r + p.dn), .int (c + p.rt)]) S := by
  simp [F_next_cell, dFun_eq, b_next_cell, steps]
  rw [gcT_same (by simp)]
/-- beyond a side -/
def beyond (b : Brd) (s : Side) : Option Side := if open' b (s.1 + s.2.2.dn) (s.2.1 + s.2.2.rt) then some ((s.1 + s.2.2.dn).toNat, (s.2.1 + s.2.2.rt).toNat, s.2.2.opp) else none
def eO : Option Side → T
  | none => .non
  | some s => eS s
@[simp] theorem lt_eO (n : Nat) (o : Option Side) : (eO o).lt n = true := by cases o <;> simp [eO]
omit W in
theorem open_nonneg {r c : Int} (h : open' b r c = true) : 0 ≤ r ∧ r < b.length ∧ 0 ≤ c ∧ c < wd b ∧ at_ b r.toNat c.toNat ≠ "" := by
  unfold open' at h
  simp only [Bool.and_eq_true, decide_eq_true_eq] at h
  exact ⟨h.1.1.1, h.1.1.2, h.1.2.1, h.1.2.2, h.2⟩
theorem other_side_ok {s : Side} : F_other_side [eB b, eS s] S = .ok (eO (beyond b s)) S := by
  obtain ⟨r, c, p⟩ := s
  unfold beyond
  simp only
  cases h : open' b (r + p.dn) (c + p.rt) with
  | false =>
    simp [F_other_side, dFun_eq, b_other_side, eS, next_cell_ok, is_open_ok W, h, eO]
    rw [gcT_same (by simp)]
  | true =>
    obtain ⟨h1, _, h2, _⟩ := open_nonneg h
    obtain ⟨r', hr⟩ := Int.eq_ofNat_of_zero_le h1
    obtain ⟨c', hc⟩ := Int.eq_ofNat_of_zero_le h2
    rw [hr, hc] at h
    simp [F_other_side, dFun_eq, b_other_side, eS, next_cell_ok, is_open_ok W, h, eO, opps, hr, hc]
    rw [gcT_same (by simp)]

theorem size_of_ok : F_size_of [eB b] S = .ok (.tup [.int b.length, .int (wd b)]) S := by
  simp [F_size_of, dFun_eq, b_size_of, ix_row0 W, wd0]
  rw [gcT_same (by simp)]
def allC (b : Brd) : List Cell := (List.range b.length).flatMap fun r => (List.range (wd b)).map fun c => (r, c)
omit W in
theorem allC_lts (n : Nat) (b : Brd) : T.lts n ((allC b).map eC) = true := ltsM fun c _ => by simp
theorem all_cells_ok : F_all_cells [eB b] S = .ok (.nlst ((allC b).map eC)) S := by
  have hf := W.few
  have hw := W.fewc
  let sh := fun (x y : Option T) => [some (eB b), some (T.int b.length), some (T.int (wd b)), some (T.ref S.length), x, y]
  simp only [F_all_cells, dFun_eq (np := 1) (n := 6) (ts := [eB b]) rfl, b_all_cells]
  simp [size_of_ok W]
  have hin : ∀ r ∈ List.range b.length, ∀ acc sl, (∃ x y, sl = sh x y) → acc.length ≤ 100000 → ∃ sl1 S1 sl2, gN 4 (T.int (r : Nat)) sl (S ++ [.lst acc]) = some (sl1, S1) ∧
      (L_all_cells_1 sl1 S1 = .nx sl2 (S ++ [.lst (acc ++ (List.range (wd b)).map fun c => eC (r, c))]) ∨ L_all_cells_1 sl1 S1 = .ct sl2 (S ++ [.lst (acc ++ (List.range (wd b)).map fun c => eC (r, c))])) ∧ (∃ x y, sl2 = sh x y) := by
    rintro r _ acc sl ⟨x, y, rfl⟩ hl
    obtain ⟨sl', q1, x', rfl⟩ := for_app (S := S) (src := none) (all := (List.range (wd b)).map fun k => T.int (k : Nat)) (g := gN 5) (b := L_all_cells_0) (fun k : Nat => T.int k) (fun c => [eC (r, c)]) (fun sl => ∃ y, sl = sh (some (T.int (r : Nat))) y) 1 1000000 (fun _ => trivial)
      (List.range (wd b)) acc (sh (some (T.int (r : Nat))) y) (fun _ _ => by simp) (fun c _ acc sl ⟨y, e⟩ hl => by
        subst e
        refine ⟨_, _, sh (some (T.int (r : Nat))) (some (T.int (c : Nat))), gN_eq _, .inl ?_, _, rfl⟩
        have : acc.length < 16777216 := by omega
        simp [L_all_cells_0, sh, this, eC]) (by simp; omega) ⟨y, rfl⟩
    refine ⟨_, _, sh (some (T.int (r : Nat))) x', gN_eq _, .inl ?_, _, _, rfl⟩
    unfold L_all_cells_1
    rw [dFor_eq _ _ _ _ _ (dRng1_eq (n := wd b) (by simp [sh]; rfl) (by omega))]
    simp only [sh, List.set_cons_succ, List.set_cons_zero] at q1 ⊢
    rw [q1]
    simp [List.map_eq_flatMap]
  rw [dFor_eq _ _ _ _ _ (dRng1_eq (n := b.length) (by simp; rfl) (by omega))]
  obtain ⟨sl', q1, x', y', rfl⟩ := for_app (S := S) (src := none) (all := (List.range b.length).map fun k => T.int (k : Nat)) (g := gN 4) (b := L_all_cells_1) (fun k : Nat => T.int k) (fun r => (List.range (wd b)).map fun c => eC (r, c)) _ (wd b) 100000 (fun _ => trivial)
      (List.range b.length) [] _ (fun _ _ => by simp) hin (by simp; exact Nat.le_trans (Nat.mul_le_mul hf hw) (by omega)) ⟨none, none, rfl⟩
  simp only [sh] at q1
  rw [q1]
  have e : [] ++ (List.range b.length).flatMap (fun r => (List.range (wd b)).map fun c => eC (r, c)) = (allC b).map eC := by simp [allC, List.map_flatMap, Function.comp_def]
  rw [e]
  simp
  rw [gcT_top (allC_lts _ _)]
/-- the cells that are no walls, in sequence -/
def cells (b : Brd) : List Cell := (allC b).filter fun c => decide (at_ b c.1 c.2 ≠ "")
omit W in
theorem mem_allC {c : Cell} : c ∈ allC b ↔ c.1 < b.length ∧ c.2 < wd b := by
  obtain ⟨r, c⟩ := c
  simp [allC]
omit W in
theorem mem_cells {c : Cell} : c ∈ cells b ↔ c.1 < b.length ∧ c.2 < wd b ∧ at_ b c.1 c.2 ≠ "" := by
  unfold cells
  rw [List.mem_filter, mem_allC]
  simp [and_assoc]
omit W in
theorem len_allC : (allC b).length = b.length * wd b := by
  simp [allC, List.length_flatMap, List.map_const', List.sum_replicate_nat]
theorem len_allC' : (allC b).length ≤ 10000 := by
  rw [len_allC]
  exact Nat.le_trans (Nat.mul_le_mul W.few W.fewc) (by omega)
theorem len_cells : (cells b).length ≤ 10000 := Nat.le_trans (List.length_filter_le _ _) (len_allC' W)
theorem cells_of_ok : F_cells_of [eB b] S = .ok (.tup ((cells b).map eC)) S := by
  have hl := len_allC' W
  simp only [F_cells_of, dFun_eq (np := 1) (n := 3) (ts := [eB b]) rfl, b_cells_of]
  have hc : C_cells_of_0 [some (eB b), none, none] S = .ok (.nlst ((cells b).map eC)) S := by
    unfold C_cells_of_0
    rw [dLc_eq _ _ _ _ _ _ _ (dIt_eq (t := .nlst ((allC b).map eC)) (src := none) (ts := (allC b).map eC) (by simp [all_cells_ok W]; rfl) rfl)]
    rw [lcL_map still_none eC (fun c => decide (at_ b c.1 c.2 ≠ "")) eC (allC b) [] ?_ (by simp; omega)]
    · simp [cells]
    · intro c hm
      obtain ⟨h1, h2⟩ := mem_allC.mp hm
      refine ⟨[some (eB b), some (.int c.1), some (.int c.2)], by simp [eC, wipeT], ?_, fun _ => ?_⟩
      · simp [ix_row W h1, ix_cell W h1 h2]
      · refine ⟨eC c, ?_, rfl⟩
        simp [eC]
  simp [hc]
  rw [gcT_same (by simp [ltsM])]
/-- all sides -/
def sides (b : Brd) : List Side := (cells b).flatMap fun c => Pt.all.map fun p => (c.1, c.2, p)
omit W in
theorem pts_it : itOf S c_POINTS = some (none, Pt.all.map fun p => T.str p.str) := rfl
omit W in
theorem mem_sides {s : Side} : s ∈ sides b ↔ (s.1, s.2.1) ∈ cells b := by
  obtain ⟨r, c, p⟩ := s
  simp [sides, Pt.mem_all]
theorem len_sides : (sides b).length ≤ 40000 := by
  have := len_cells W
  simp [sides, List.length_flatMap, List.map_const', List.sum_replicate_nat, Pt.all]
  omega
theorem sides_of_ok : F_sides_of [eB b] S = .ok (.tup ((sides b).map eS)) S := by
  have hl := len_cells W
  let sh := fun (x y z : Option T) => [some (eB b), some (T.ref S.length), x, y, z]
  simp only [F_sides_of, dFun_eq (np := 1) (n := 5) (ts := [eB b]) rfl, b_sides_of]
  simp
  have hin : ∀ c ∈ cells b, ∀ acc sl, (∃ x y z, sl = sh x y z) → acc.length ≤ 1000000 → ∃ sl1 S1 sl2, gT 2 (gsCons (gN 2) (gsCons (gN 3) gsNil)) (eC c) sl (S ++ [.lst acc]) = some (sl1, S1) ∧
      (L_sides_of_1 sl1 S1 = .nx sl2 (S ++ [.lst (acc ++ Pt.all.map fun p => eS (c.1, c.2, p))]) ∨ L_sides_of_1 sl1 S1 = .ct sl2 (S ++ [.lst (acc ++ Pt.all.map fun p => eS (c.1, c.2, p))])) ∧ (∃ x y z, sl2 = sh x y z) := by
    rintro c _ acc sl ⟨x, y, z, rfl⟩ hl
    obtain ⟨sl', q1, x', rfl⟩ := for_app (S := S) (src := none) (all := Pt.all.map fun p => T.str p.str) (g := gN 4) (b := L_sides_of_0) (fun p : Pt => T.str p.str) (fun p => [eS (c.1, c.2, p)]) (fun sl => ∃ z, sl = sh (some (.int c.1)) (some (.int c.2)) z) 1 2000000 (fun _ => trivial)
      Pt.all acc (sh (some (.int c.1)) (some (.int c.2)) z) (fun _ _ => by simp) (fun p _ acc sl ⟨z, e⟩ hl => by
        subst e
        refine ⟨_, _, sh (some (.int c.1)) (some (.int c.2)) (some (.str p.str)), gN_eq _, .inl ?_, _, rfl⟩
        have : acc.length < 16777216 := by omega
        simp [L_sides_of_0, sh, this, eS]) (by simp [Pt.all]; omega) ⟨z, rfl⟩
    refine ⟨sh (some (.int c.1)) (some (.int c.2)) z, S ++ [.lst acc], sh (some (.int c.1)) (some (.int c.2)) x', by simp [eC, sh], .inl ?_, _, _, _, rfl⟩
    unfold L_sides_of_1
    rw [dFor_eq _ _ _ _ _ (dIt_eq (t := c_POINTS) (by simp; rfl) (by rw [fz_c_POINTS]; exact pts_it)), q1]
    simp [List.map_eq_flatMap]
  rw [dFor_eq _ _ _ _ _ (dIt_eq (t := .tup ((cells b).map eC)) (src := none) (ts := (cells b).map eC) (by simp [cells_of_ok W]; rfl) rfl)]
  obtain ⟨sl', q1, x', y', z', rfl⟩ := for_app (S := S) (src := none) (all := (cells b).map eC) (g := gT 2 (gsCons (gN 2) (gsCons (gN 3) gsNil))) (b := L_sides_of_1) eC (fun c => Pt.all.map fun p => eS (c.1, c.2, p)) _ 4 1000000 (fun _ => trivial)
      (cells b) [] _ (fun _ _ => by simp [Pt.all]) hin (by simp; omega) ⟨none, none, none, rfl⟩
  simp only [sh] at q1
  rw [q1]
  have e : [] ++ (cells b).flatMap (fun c => Pt.all.map fun p => eS (c.1, c.2, p)) = (sides b).map eS := by simp [sides, List.map_flatMap, Function.comp_def]
  rw [e]
  simp
  rw [gcT_app (by simp [ltsM])]
/-- the ends -/
def ends (b : Brd) : List Side := (sides b).filter fun s => (beyond b s).isNone
omit W in
@[simp] theorem fIs_eO {o : Option Side} : fIs false (eO o) .non S = .ok (.bl o.isNone) S := by cases o <;> simp [eO, eS]
omit W in
@[simp] theorem fIsN_eO {o : Option Side} : fIs true (eO o) .non S = .ok (.bl o.isSome) S := by cases o <;> simp [eO, eS]
omit W in
@[simp] theorem fz_eO {o : Option Side} : fz (eO o) = eO o := by cases o <;> rfl
theorem ends_of_ok : F_ends_of [eB b] S = .ok (.tup ((ends b).map eS)) S := by
  have hl := len_sides W
  simp only [F_ends_of, dFun_eq (np := 1) (n := 2) (ts := [eB b]) rfl, b_ends_of]
  have hc : C_ends_of_0 [some (eB b), none] S = .ok (.nlst ((ends b).map eS)) S := by
    unfold C_ends_of_0
    rw [dLc_eq _ _ _ _ _ _ _ (dIt_eq (t := .tup ((sides b).map eS)) (src := none) (ts := (sides b).map eS) (by simp [sides_of_ok W]; rfl) rfl)]
    rw [lcL_map still_none eS (fun s => (beyond b s).isNone) eS (sides b) [] ?_ (by simp; omega)]
    · simp [ends]
    · intro s hm
      refine ⟨[some (eB b), some (eS s)], by simp [wipeT], ?_, fun _ => ?_⟩
      · simp [other_side_ok W]
      · refine ⟨eS s, ?_, rfl⟩
        simp
  simp [hc]
  rw [gcT_same (by simp [ltsM])]
end
/-! ### equal or not, in or not -/
theorem Pt.ok (p : Pt) : PyData.strOk p.str = true := by cases p <;> decide +kernel
theorem beq_nat (a b : Nat) : ((a : Int) == (b : Int)) = decide (a = b) := by
  by_cases h : a = b
  · subst h; simp
  · rw [decide_eq_false h, beq_eq_false_iff_ne]
    omega
theorem beq_pt (p q : Pt) : (p.str == q.str) = decide (p = q) := by
  by_cases h : p = q
  · subst h; simp
  · rw [decide_eq_false h, beq_eq_false_iff_ne]
    exact fun z => h (Pt.str_inj.mp z)
theorem fit_eC (c : Cell) : fit (eC c).dat = true := by simp [eC, T.dat, T.dats, fit, SeqAt.shaped, PyData.canLay0, PyData.canLayAll0, PyData.depth, PyData.depthAll]
theorem fit_eS (c : Side) : fit (eS c).dat = true := by simp [Pt.ok, eS, T.dat, T.dats, fit, SeqAt.shaped, PyData.canLay0, PyData.canLayAll0, PyData.depth, PyData.depthAll]
theorem eqv_eC {c d : Cell} : PyData.eqv (eC c).dat (eC d).dat = decide (c = d) := by
  obtain ⟨a, b⟩ := c
  obtain ⟨x, y⟩ := d
  simp only [eC, T.dat, T.dats, PyData.eqv, PyData.eqvAll, Bool.and_true, beq_nat]
  simp [Prod.ext_iff]
theorem eqv_eS {c d : Side} : PyData.eqv (eS c).dat (eS d).dat = decide (c = d) := by
  obtain ⟨a, b, p⟩ := c
  obtain ⟨x, y, q⟩ := d
  simp only [eS, T.dat, T.dats, PyData.eqv, PyData.eqvAll, Bool.and_true, beq_nat, beq_pt]
  simp [Prod.ext_iff]
section
variable {S : Sto} {n : Bool}
@[simp] theorem fEq_eC {c d : Cell} : fEq n (eC c) (eC d) S = .ok (.bl (if n then !decide (c = d) else decide (c = d))) S := by
  have h1 := fit_eC c
  have h2 := fit_eC d
  have h3 := eqv_eC (c := c) (d := d)
  unfold eC at h1 h2 h3 ⊢
  rw [fEq_tup, h1, h2, h3]
  rfl
@[simp] theorem fEq_eS {c d : Side} : fEq n (eS c) (eS d) S = .ok (.bl (if n then !decide (c = d) else decide (c = d))) S := by
  have h1 := fit_eS c
  have h2 := fit_eS d
  have h3 := eqv_eS (c := c) (d := d)
  unfold eS at h1 h2 h3 ⊢
  rw [fEq_tup, h1, h2, h3]
  rfl
theorem lay_eS : ∀ l : List Side, PyData.canLayAll0 (T.dats (l.map eS)) = true ∧ PyData.depthAll (T.dats (l.map eS)) ≤ 1
  | [] => ⟨rfl, by simp [T.dats, PyData.depthAll]⟩
  | s :: l => by
    obtain ⟨h1, h2⟩ := lay_eS l
    constructor
    · simp only [List.map_cons, T.dats, PyData.canLayAll0, h1, Bool.and_true]
      have := fit_eS s
      exact lay_of_fit this
    · simp only [List.map_cons, T.dats, PyData.depthAll]
      have : (eS s).dat.depth ≤ 1 := by simp [eS, T.dat, T.dats, PyData.depth, PyData.depthAll]
      omega
theorem fit_lS (l : List Side) : fit (.list (T.dats (l.map eS))) = true := by
  obtain ⟨h1, h2⟩ := lay_eS l
  simp [fit, SeqAt.shaped, PyData.canLay0, PyData.depth, h1]
  omega
theorem any_eS {s : Side} : ∀ l : List Side, ((T.dats (l.map eS)).any fun z => PyData.eqv z (eS s).dat) = decide (s ∈ l)
  | [] => by simp [T.dats]
  | t :: l => by
    rw [List.map_cons, T.dats, List.any_cons, any_eS l, eqv_eS]
    by_cases h : s = t
    · subst h; simp
    · have : t ≠ s := fun q => h q.symm
      simp [h, this]
theorem in_core {s : Side} {l : List Side} {y : T} (hy : seqOf S y = some (l.map eS)) : fIn n (eS s) y S = .ok (.bl (if n then !decide (s ∈ l) else decide (s ∈ l))) S := by
  have h1 : fit (dato S (eS s)) = true := fit_eS s
  have h4 := any_eS (s := s) l
  have h5 : dato S (eS s) = (eS s).dat := rfl
  have h6 : fIn n (eS s) y S = (match seqOf S y with
    | some ts => if fit (dato S (eS s)) && fit (.list (T.dats ts)) then .ok (.bl (if n then !((T.dats ts).any fun z => PyData.eqv z (dato S (eS s))) else (T.dats ts).any fun z => PyData.eqv z (dato S (eS s)))) S else .bad
    | none => match dget S y (eS s) with
      | some o => .ok (.bl (if n then !o.isSome else o.isSome)) S
      | none => .bad) := by cases y <;> rfl
  rw [h6, hy]
  simp only [h1, fit_lS, fit_eS, Bool.and_self, if_true, h5, h4]
@[simp] theorem fIn_tS {s : Side} {l : List Side} : fIn n (eS s) (.tup (l.map eS)) S = .ok (.bl (if n then !decide (s ∈ l) else decide (s ∈ l))) S := in_core rfl
@[simp] theorem fIn_lS {s : Side} {l : List Side} : fIn n (eS s) (.lst (l.map eS)) S = .ok (.bl (if n then !decide (s ∈ l) else decide (s ∈ l))) S := in_core rfl
@[simp] theorem fIn_1S {s t : Side} : fIn n (eS s) (.tup [eS t]) S = .ok (.bl (if n then !decide (s = t) else decide (s = t))) S := by
  have := fIn_tS (n := n) (S := S) (s := s) (l := [t])
  simpa using this
@[simp] theorem fIn_0S {s : Side} : fIn n (eS s) (.tup []) S = .ok (.bl n) S := by
  have := fIn_tS (n := n) (S := S) (s := s) (l := [])
  simpa using this
end
/-! ### cuts -/
theorem cutT_to {α : Type} {xs : List α} {n : Nat} : cutT xs none (some (n : Int)) = xs.take n := by
  unfold cutT HT.sIx
  simp only [Int.toNat_natCast]
  rw [if_neg (by omega), List.drop_zero, Nat.sub_zero]
  by_cases h : n ≤ xs.length
  · rw [Nat.min_eq_left h]
  · rw [Nat.min_eq_right (by omega), List.take_of_length_le (Nat.le_refl _), List.take_of_length_le (by omega)]
theorem cutT_from {α : Type} {xs : List α} {n : Nat} : cutT xs (some (n : Int)) none = xs.drop n := by
  unfold cutT HT.sIx
  simp only [Int.toNat_natCast]
  rw [if_neg (by omega)]
  by_cases h : n ≤ xs.length
  · rw [Nat.min_eq_left h]
    exact List.take_of_length_le (by simp)
  · rw [Nat.min_eq_right (by omega)]
    simp
    omega
@[simp] theorem cut_eS {s : Side} : fSl (eS s) none (some 2) = fun S => .ok (eC (s.1, s.2.1)) S := by
  funext S
  unfold eS
  rw [fSl_tup]
  have : cutT [T.int s.1, T.int s.2.1, T.str s.2.2.str] none (some ((2 : Nat) : Int)) = [T.int s.1, T.int s.2.1] := by rw [cutT_to]; rfl
  rw [show ((2 : Nat) : Int) = 2 from rfl] at this
  rw [this]
  rfl
/-! ### a cell written -/
/-- with a kind at a cell -/
def put (b : Brd) (r c : Nat) (k : Str) : Brd := b.take r ++ [(row b r).take c ++ [k] ++ (row b r).drop (c + 1)] ++ b.drop (r + 1)
/-- all walls at a cell -/
def shut (b : Brd) (c : Cell) : Brd := (List.range b.length).map fun i => (List.range (wd b)).map fun j => if (i, j) = c then "" else at_ b i j
section
variable {b : Brd} {S : Sto} (W : WB b)
include W
theorem put_kind_ok {r c : Nat} {k : Str} (hr : r < b.length) (hc : c < wd b) : F_put_kind [eB b, .int r, .int c, .str k] S = .ok (eB (put b r c k)) S := by
  have h1 := W.few
  have h2 := W.fewc
  have h3 := len_row W hr
  simp only [F_put_kind, dFun_eq (np := 4) (n := 5) (ts := [eB b, T.int r, T.int c, T.str k]) rfl, b_put_kind]
  have e1 : ((r : Int) + 1) = ((r + 1 : Nat) : Int) := by omega
  have e2 : ((c : Int) + 1) = ((c + 1 : Nat) : Int) := by omega
  have x1 : fSl (eR (row b r)) none (some (c : Int)) S = .ok (.tup (((row b r).take c).map T.str)) S := by
    unfold eR
    rw [fSl_tup, cutT_to, List.map_take]
  have x2 : fSl (eR (row b r)) (some ((c : Int) + 1)) none S = .ok (.tup (((row b r).drop (c + 1)).map T.str)) S := by
    rw [e2]
    unfold eR
    rw [fSl_tup, cutT_from, List.map_drop]
  have x3 : fSl (eB b) none (some (r : Int)) S = .ok (.tup ((b.take r).map eR)) S := by
    unfold eB
    rw [fSl_tup, cutT_to, List.map_take]
  have x4 : fSl (eB b) (some ((r : Int) + 1)) none S = .ok (.tup ((b.drop (r + 1)).map eR)) S := by
    rw [e1]
    unfold eB
    rw [fSl_tup, cutT_from, List.map_drop]
  have l1 : min c (row b r).length ≤ 16777215 := by omega
  have l2 : min c (row b r).length + 1 + ((row b r).length - (c + 1)) ≤ 16777216 := by omega
  have l3 : min r b.length ≤ 16777215 := by omega
  have l4 : min r b.length + 1 + (b.length - (r + 1)) ≤ 16777216 := by omega
  simp [ix_row W hr, x1, x2, x3, x4, l1, l2, l3, l4]
  have e : T.tup (List.take r (List.map eR b) ++ T.tup (List.take c (List.map T.str (row b r)) ++ T.str k :: List.drop (c + 1) (List.map T.str (row b r))) :: List.drop (r + 1) (List.map eR b)) = eB (put b r c k) := by
    simp [eB, put, eR]
  rw [e, gcT_same (by simp)]
omit W in
theorem at_row {r c : Nat} (h : c < (row b r).length) : (row b r)[c]? = some (at_ b r c) := by
  unfold at_
  rw [List.getElem?_eq_getElem h]
  rfl
theorem put_shut {r c : Nat} (hr : r < b.length) (hc : c < wd b) : put b r c "" = shut b (r, c) := by
  have h3 := len_row W hr
  apply List.ext_getElem?
  intro i
  unfold put shut
  by_cases hi : i < b.length
  · rw [List.getElem?_map, List.getElem?_range hi]
    simp only [Option.map_some]
    have h4 := len_row W hi
    have hrow : b[i]? = some (row b i) := by unfold row; rw [List.getElem?_eq_getElem hi]; rfl
    by_cases e : i = r
    · subst e
      have l : (b.take i).length = i := by rw [List.length_take]; omega
      rw [List.append_assoc, List.getElem?_append_right (by omega), l, Nat.sub_self]
      simp only [List.singleton_append, List.getElem?_cons_zero]
      congr 1
      apply List.ext_getElem?
      intro j
      have l2 : ((row b i).take c).length = c := by rw [List.length_take]; omega
      by_cases hj : j < wd b
      · rw [List.getElem?_map, List.getElem?_range hj]
        simp only [Option.map_some, Prod.mk.injEq, true_and]
        rcases Nat.lt_trichotomy j c with q | q | q
        · rw [List.append_assoc, List.getElem?_append_left (by omega), List.getElem?_take_of_lt q, at_row (by omega), if_neg (by omega)]
        · subst q
          rw [List.append_assoc, List.getElem?_append_right (by omega), l2, Nat.sub_self, if_pos rfl]
          rfl
        · rw [List.append_assoc, List.getElem?_append_right (by omega), l2, if_neg (by omega), List.singleton_append]
          obtain ⟨m, hm⟩ : ∃ m, j - c = m + 1 := ⟨j - c - 1, by omega⟩
          rw [hm, List.getElem?_cons_succ, List.getElem?_drop, show c + 1 + m = j by omega, at_row (by omega)]
      · rw [List.getElem?_eq_none (by simp; omega), List.getElem?_eq_none (by simp; omega)]
    · have hr2 : (List.range (wd b)).map (fun j => if (i, j) = (r, c) then ("" : Str) else at_ b i j) = row b i := by
        apply List.ext_getElem?
        intro j
        by_cases hj : j < wd b
        · rw [List.getElem?_map, List.getElem?_range hj, at_row (by omega)]
          simp [e]
        · rw [List.getElem?_eq_none (by simp; omega), List.getElem?_eq_none (by omega)]
      rw [hr2]
      have l : (b.take r).length = r := by rw [List.length_take]; omega
      rcases Nat.lt_or_gt_of_ne e with q | q
      · rw [List.append_assoc, List.getElem?_append_left (by omega), List.getElem?_take_of_lt q, hrow]
      · rw [List.append_assoc, List.getElem?_append_right (by omega), l, List.singleton_append]
        obtain ⟨m, hm⟩ : ∃ m, i - r = m + 1 := ⟨i - r - 1, by omega⟩
        rw [hm, List.getElem?_cons_succ, List.getElem?_drop, show r + 1 + m = i by omega, hrow]
  · rw [List.getElem?_eq_none (by simp; omega), List.getElem?_eq_none (by simp; omega)]
omit W in
theorem shut_row {d : Cell} {i : Nat} (hi : i < b.length) : row (shut b d) i = (List.range (wd b)).map fun j => if (i, j) = d then ("" : Str) else at_ b i j := by
  unfold row shut
  rw [List.getElem?_map, List.getElem?_range hi]
  rfl
omit W in
theorem len_shut {d : Cell} : (shut b d).length = b.length := by simp [shut]
theorem wd_shut {d : Cell} : wd (shut b d) = wd b := by
  have : wd (shut b d) = (row (shut b d) 0).length := rfl
  rw [this, shut_row W.rows]
  simp
omit W in
theorem at_shut {d : Cell} {i j : Nat} (hi : i < b.length) (hj : j < wd b) : at_ (shut b d) i j = if (i, j) = d then ("" : Str) else at_ b i j := by
  have : at_ (shut b d) i j = (row (shut b d) i)[j]?.getD "" := rfl
  rw [this, shut_row hi, List.getElem?_map, List.getElem?_range hj]
  rfl
theorem WB_shut {d : Cell} : WB (shut b d) := ⟨by rw [len_shut]; exact W.rows, by rw [len_shut]; exact W.few, fun r hr => by
  rw [wd_shut W]
  unfold shut at hr
  obtain ⟨i, _, rfl⟩ := List.mem_map.mp hr
  simp, by rw [wd_shut W]; exact W.cols, by rw [wd_shut W]; exact W.fewc⟩
end
end Bd

/-! the law's own looks at boards -/
namespace Bd
open PySem PySem.Spec L2 Dn Pk
@[simp] theorem filt_true {α : Type} (xs : List α) : xs.filter (fun _ => true) = xs := List.filter_eq_self.mpr fun _ _ => rfl
section
variable {b : Brd} {S : Sto} (W : WB b)
include W
theorem law_cells_ok : F__law_cells [eB b] S = .ok (.lst ((cells b).map eC)) S := by
  have hf := W.few
  have hw := W.fewc
  let rowC := fun r : Nat => ((List.range (wd b)).filter fun c => decide (at_ b r c ≠ "")).map fun c => eC (r, c)
  let sh := fun (acc : List T) (y z : Option T) => [some (eB b), some (T.lst acc), y, z]
  have hrl : ∀ r, (rowC r).length ≤ 100 := fun r => by
    simp only [rowC, List.length_map]
    exact Nat.le_trans (List.length_filter_le _ _) (by simp; exact hw)
  have hcomp : ∀ r, r < b.length → ∀ acc z, C__law_cells_0 (sh acc (some (.int (r : Nat))) z) S = .ok (.nlst (rowC r)) S := by
    intro r hr acc z
    unfold C__law_cells_0
    rw [dLc_eq _ _ _ _ _ _ _ (dRng1_eq (n := wd b) (by simp [sh, ix_row0 W, wd0]; rfl) (by omega))]
    rw [lcL_map still_none (fun k : Nat => T.int k) (fun c => decide (at_ b r c ≠ "")) (fun c => eC (r, c)) (List.range (wd b)) [] ?_ (by simp; omega)]
    · simp [rowC]
    · intro c hm
      have hc : c < wd b := by simpa using hm
      refine ⟨[some (eB b), some (T.lst acc), some (.int r), some (.int c)], by simp [sh, wipeT], ?_, fun _ => ?_⟩
      · simp [ix_row W hr, ix_cell W hr hc]
      · refine ⟨eC (r, c), ?_, rfl⟩
        simp [eC]
  simp only [F__law_cells, dFun_eq (np := 1) (n := 4) (ts := [eB b]) rfl, b__law_cells]
  simp
  rw [dFor_eq _ _ _ _ _ (dRng1_eq (n := b.length) (by simp; rfl) (by omega))]
  obtain ⟨sl', q1, acc', hacc, y', z', rfl, _⟩ := for_set (β := Unit) (src := none) (all := (List.range b.length).map fun k => T.int (k : Nat)) (g := gN 2) (b := L__law_cells_1) (S := S) (fun k : Nat => T.int k) still_none
    (fun xs sl => ∃ acc, acc ++ xs.flatMap rowC = (List.range b.length).flatMap rowC ∧ ∃ y z, sl = sh acc y z ∧ (∀ x ∈ xs, x < b.length) ∧ acc.length + xs.length * 100 ≤ 10000) (by
      rintro x xs sl ⟨acc, h1, y, z, rfl, h2, h3⟩
      have hx := h2 x List.mem_cons_self
      have hlx := hrl x
      rw [List.length_cons, Nat.succ_mul] at h3
      refine ⟨_, _, sh (acc ++ rowC x) (some (.int (x : Nat))) z, gN_eq _, .inl ?_, acc ++ rowC x, by rw [← h1]; simp, _, _, rfl, fun q hq => h2 q (List.mem_cons_of_mem _ hq), by rw [List.length_append]; omega⟩
      have hc := hcomp x hx acc z
      simp only [sh] at hc
      have hz : acc.length + (rowC x).length ≤ 16777216 := by omega
      simp [L__law_cells_1, sh, hc, hz])
    (List.range b.length) (sh [] none none) ⟨[], by simp, none, none, rfl, by simp, by simp; omega⟩
  simp only [sh] at q1
  rw [q1]
  simp only [List.flatMap_nil, List.append_nil] at hacc
  subst hacc
  have e : (List.range b.length).flatMap rowC = (cells b).map eC := by
    simp only [cells, allC, List.filter_flatMap, List.map_flatMap, List.filter_map, List.map_map, rowC]
    rfl
  rw [e]
  simp
  rw [gcT_same (by simp [ltsM])]
omit W in
theorem law_dn {x0 x1 x2 x3 : Option T} {p : Pt} : dGet2 (dDisp [((dC (.str "n")), (dUn fNeg (dC (.int 1)))), ((dC (.str "s")), (dC (.int 1)))]) (dVar 4) (dC (.int 0)) [x0, x1, x2, x3, some (.str p.str)] S = .ok (.int p.dn) S := by cases p <;> rfl
omit W in
theorem law_rt {x0 x1 x2 x3 : Option T} {p : Pt} : dGet2 (dDisp [((dC (.str "e")), (dC (.int 1))), ((dC (.str "w")), (dUn fNeg (dC (.int 1))))]) (dVar 4) (dC (.int 0)) [x0, x1, x2, x3, some (.str p.str)] S = .ok (.int p.rt) S := by cases p <;> rfl
omit W in
theorem law_opp {x0 x1 x2 x3 : Option T} {p : Pt} : dBin fIx (dDisp [((dC (.str "e")), (dC (.str "w"))), ((dC (.str "w")), (dC (.str "e"))), ((dC (.str "n")), (dC (.str "s"))), ((dC (.str "s")), (dC (.str "n")))]) (dVar 4) [x0, x1, x2, x3, some (.str p.str)] S = .ok (.str p.opp.str) S := by cases p <;> rfl
theorem law_beyond_ok {s : Side} : F__law_beyond [eB b, eS s] S = .ok (eO (beyond b s)) S := by
  obtain ⟨r, c, p⟩ := s
  simp only [F__law_beyond, dFun_eq (np := 2) (n := 5) (ts := [eB b, eS (r, c, p)]) rfl, b__law_beyond]
  have key : ∀ (x y : Int), (if x < 0 then RB.ok true S else if y < 0 then RB.ok true S else if (b.length : Int) ≤ x then RB.ok true S else if (wd b : Int) ≤ y then RB.ok true S else
      (((fIx (eB b) (.int x) S).bind fun q S1 => fIx (fz q) (.int y) S1).bind fun q S1 => fEq false (fz q) (.str "") S1).toB) = .ok (!open' b x y) S := by
    intro x y
    unfold open'
    by_cases h1 : x < 0
    · have : ¬ 0 ≤ x := by omega
      simp [h1, this]
    · by_cases h2 : y < 0
      · have : ¬ 0 ≤ y := by omega
        simp [h1, h2, this]
      · by_cases h3 : (b.length : Int) ≤ x
        · have : ¬ x < (b.length : Int) := by omega
          simp [h1, h2, h3, this]
        · by_cases h4 : (wd b : Int) ≤ y
          · have : ¬ y < (wd b : Int) := by omega
            simp [h1, h2, h3, h4, this]
          · obtain ⟨x', rfl⟩ := Int.eq_ofNat_of_zero_le (show 0 ≤ x by omega)
            obtain ⟨y', rfl⟩ := Int.eq_ofNat_of_zero_le (show 0 ≤ y by omega)
            have h5 : x' < b.length := by omega
            have h6 : y' < wd b := by omega
            have h7 : ¬ b.length ≤ x' := by omega
            have h8 : ¬ wd b ≤ y' := by omega
            have h9 : ¬ ((x' : Int) < 0) := by omega
            have h10 : ¬ ((y' : Int) < 0) := by omega
            simp [ix_row W h5, ix_cell W h5 h6, h5, h6, h7, h8, h9, h10]
  unfold beyond
  simp only
  have e1 : ∀ x : Int, x < 0 ↔ ¬ 0 ≤ x := fun x => by omega
  cases h : open' b (r + p.dn) (c + p.rt) with
  | false =>
    simp [eS, law_dn, law_rt, ix_row0 W, wd0, key, h, eO]
    rw [gcT_same (by simp)]
  | true =>
    obtain ⟨h1, h3, h2, h4, h5⟩ := open_nonneg h
    obtain ⟨r', hr⟩ := Int.eq_ofNat_of_zero_le h1
    obtain ⟨c', hc⟩ := Int.eq_ofNat_of_zero_le h2
    rw [hr] at h3 h5
    rw [hc] at h4 h5
    simp only [Int.toNat_natCast] at h5
    have h6 : r' < b.length := by omega
    have h7 : c' < wd b := by omega
    have h8 : ¬ b.length ≤ r' := by omega
    have h9 : ¬ wd b ≤ c' := by omega
    have h10 : ¬ ((r' : Int) < 0) := by omega
    have h11 : ¬ ((c' : Int) < 0) := by omega
    have lo := law_opp (S := S) (x0 := some (eB b)) (x1 := some (T.tup [T.int r, T.int c, T.str p.str])) (x2 := some (T.int r')) (x3 := some (T.int c')) (p := p)
    simp only [Dn.dBin_eq] at lo
    simp [eS, law_dn, law_rt, ix_row0 W, wd0, hr, hc, eO, ix_row W h6, ix_cell W h6 h7, h8, h9, h10, h11, h5]
    simp at lo
    rw [lo]
    simp
    rw [gcT_same (by simp)]
theorem law_sides_ok : F__law_sides [eB b] S = .ok (.lst ((sides b).map eS)) S := by
  have hl := len_cells W
  let sh := fun (acc : List T) (y z : Option T) => [some (eB b), some (T.lst acc), y, z]
  let cs := fun c : Cell => Pt.all.map fun p => eS (c.1, c.2, p)
  have hcomp : ∀ (c : Cell) acc z, C__law_sides_0 (sh acc (some (eC c)) z) S = .ok (.nlst (cs c)) S := by
    intro c acc z
    unfold C__law_sides_0
    rw [dLc_eq _ _ _ _ _ _ _ (dIt_eq (t := .str "ensw") (src := none) (ts := Pt.all.map fun p => T.str p.str) (by simp; rfl) rfl)]
    rw [lcL_map still_none (fun p : Pt => T.str p.str) (fun _ => true) (fun p => eS (c.1, c.2, p)) Pt.all [] ?_ (by simp [Pt.all])]
    · simp [cs]
    · intro p _
      refine ⟨[some (eB b), some (T.lst acc), some (eC c), some (.str p.str)], by simp [sh, wipeT], rfl, fun _ => ⟨eS (c.1, c.2, p), ?_, rfl⟩⟩
      simp [eC, eS]
  simp only [F__law_sides, dFun_eq (np := 1) (n := 4) (ts := [eB b]) rfl, b__law_sides]
  simp
  rw [dFor_eq _ _ _ _ _ (dIt_eq (t := .lst ((cells b).map eC)) (src := none) (ts := (cells b).map eC) (by simp [law_cells_ok W]; rfl) rfl)]
  obtain ⟨sl', q1, acc', hacc, y', z', rfl, _⟩ := for_set (β := Unit) (src := none) (all := (cells b).map eC) (g := gN 2) (b := L__law_sides_1) (S := S) eC still_none
    (fun xs sl => ∃ acc, acc ++ xs.flatMap cs = (cells b).flatMap cs ∧ ∃ y z, sl = sh acc y z ∧ acc.length + xs.length * 4 ≤ 40000) (by
      rintro x xs sl ⟨acc, h1, y, z, rfl, h3⟩
      rw [List.length_cons, Nat.succ_mul] at h3
      refine ⟨_, _, sh (acc ++ cs x) (some (eC x)) z, gN_eq _, .inl ?_, acc ++ cs x, by rw [← h1]; simp, _, _, rfl, by simp [cs, Pt.all]; omega⟩
      have hc := hcomp x acc z
      simp only [sh] at hc
      have hz : acc.length + (cs x).length ≤ 16777216 := by simp [cs, Pt.all]; omega
      simp [L__law_sides_1, sh, hc, hz])
    (cells b) (sh [] none none) ⟨[], by simp, none, none, rfl, by simp; omega⟩
  simp only [sh] at q1
  rw [q1]
  simp only [List.flatMap_nil, List.append_nil] at hacc
  subst hacc
  have e : (cells b).flatMap cs = (sides b).map eS := by simp [sides, List.map_flatMap, Function.comp_def, cs]
  rw [e]
  simp
  rw [gcT_same (by simp [ltsM])]
theorem law_ends_ok : F__law_ends [eB b] S = .ok (.nlst ((ends b).map eS)) S := by
  have hl := len_sides W
  simp only [F__law_ends, dFun_eq (np := 1) (n := 2) (ts := [eB b]) rfl, b__law_ends]
  have hc : C__law_ends_0 [some (eB b), none] S = .ok (.nlst ((ends b).map eS)) S := by
    unfold C__law_ends_0
    rw [dLc_eq _ _ _ _ _ _ _ (dIt_eq (t := .lst ((sides b).map eS)) (src := none) (ts := (sides b).map eS) (by simp [law_sides_ok W]; rfl) rfl)]
    rw [lcL_map still_none eS (fun s => (beyond b s).isNone) eS (sides b) [] ?_ (by simp; omega)]
    · simp [ends]
    · intro s hm
      refine ⟨[some (eB b), some (eS s)], by simp [wipeT], ?_, fun _ => ?_⟩
      · simp [law_beyond_ok W]
      · refine ⟨eS s, ?_, rfl⟩
        simp
  simp [hc]
  rw [gcT_same (by simp [ltsM])]
theorem law_shut_ok {d : Cell} : F__law_shut [eB b, eC d] S = .ok (eB (shut b d)) S := by
  have hf := W.few
  have hw := W.fewc
  let sh := fun (y z : Option T) => [some (eB b), some (eC d), some (T.ref S.length), y, z]
  have hcomp : ∀ i, i < b.length → ∀ z S', C__law_shut_0 (sh (some (.int (i : Nat))) z) S' = .ok (.nlst ((List.range (wd b)).map fun j => T.str (if (i, j) = d then ("" : Str) else at_ b i j))) S' := by
    intro i hi z S'
    unfold C__law_shut_0
    rw [dLc_eq _ _ _ _ _ _ _ (dRng1_eq (n := wd b) (by simp [sh, ix_row0 W, wd0]; rfl) (by omega))]
    rw [lcL_map still_none (fun k : Nat => T.int k) (fun _ => true) (fun j => T.str (if (i, j) = d then ("" : Str) else at_ b i j)) (List.range (wd b)) [] ?_ (by simp; omega)]
    · simp
    · intro j hm
      have hj : j < wd b := by simpa using hm
      refine ⟨[some (eB b), some (eC d), some (T.ref S.length), some (.int i), some (.int j)], by simp [sh, wipeT], rfl, fun _ => ?_⟩
      have ec : T.tup [T.int (i : Nat), T.int (j : Nat)] = eC (i, j) := rfl
      by_cases h : (i, j) = d
      · refine ⟨.str "", ?_, by simp [h]⟩
        simp [ec, h]
      · refine ⟨.str (at_ b i j), ?_, by simp [h]⟩
        simp [ec, h, ix_row W hi, ix_cell W hi hj]
  simp only [F__law_shut, dFun_eq (np := 2) (n := 5) (ts := [eB b, eC d]) rfl, b__law_shut]
  simp
  rw [dFor_eq _ _ _ _ _ (dRng1_eq (n := b.length) (by simp; rfl) (by omega))]
  let fr := fun i : Nat => [eR ((List.range (wd b)).map fun j => if (i, j) = d then ("" : Str) else at_ b i j)]
  obtain ⟨sl', q1, x', y', rfl⟩ := for_app (S := S) (src := none) (all := (List.range b.length).map fun k => T.int (k : Nat)) (g := gN 3) (b := L__law_shut_1) (fun k : Nat => T.int k) fr (fun sl => ∃ x y, sl = sh x y) 1 1000 (fun _ => trivial)
      (List.range b.length) [] (sh none none) (fun _ _ => by simp [fr]) (fun i hi acc sl ⟨x, y, e⟩ hl => by
        subst e
        refine ⟨_, _, sh (some (T.int (i : Nat))) y, gN_eq _, .inl ?_, _, _, rfl⟩
        have hc := hcomp i (by simpa using hi) y (S ++ [.lst acc])
        simp only [sh] at hc
        have : acc.length < 16777216 := by omega
        simp [L__law_shut_1, sh, hc, this, fr, eR]) (by simp; omega) ⟨none, none, rfl⟩
  simp only [sh] at q1
  rw [q1]
  have e : T.tup ([] ++ (List.range b.length).flatMap fr) = eB (shut b d) := by simp [eB, shut, fr, List.map_eq_flatMap, Function.comp_def, List.flatMap_assoc]
  simp only [List.nil_append] at e
  simp [e]
  rw [gcT_app (by simp)]
end
end Bd

/-! sides in sequence, sorted -/
namespace Bd
open PySem PySem.Spec L2 Dn Pk
def Pt.ix : Pt → Nat
  | .e => 0 | .n => 1 | .s => 2 | .w => 3
theorem Pt.ix_inj {p q : Pt} (h : p.ix = q.ix) : p = q := by cases p <;> cases q <;> first | rfl | (simp [Pt.ix] at h)
theorem Pt.lt_ix (p q : Pt) : decide (p.str.cps.toList < q.str.cps.toList) = decide (p.ix < q.ix) := by cases p <;> cases q <;> decide +kernel
/-- the sequence of sides -/
def slt (s t : Side) : Prop := s.1 < t.1 ∨ s.1 = t.1 ∧ (s.2.1 < t.2.1 ∨ s.2.1 = t.2.1 ∧ s.2.2.ix < t.2.2.ix)
instance (s t : Side) : Decidable (slt s t) := by unfold slt; infer_instance
theorem dlt_eS (s t : Side) : PySem.W.dataLt (eS s).dat (eS t).dat = decide (slt s t) := by
  obtain ⟨a, b, p⟩ := s
  obtain ⟨x, y, q⟩ := t
  simp only [eS, T.dat, T.dats]
  rw [PySem.W.dataLt_tuple, PySem.W.dataLt_cons (by simp [PySem.W.alike]), PySem.W.dataLt_cons (by simp [PySem.W.alike]), PySem.W.dataLt_cons (by simp [PySem.W.alike])]
  simp only [PyData.eqv, beq_nat, beq_pt, PySem.W.dataLt_int, PySem.W.dataLt_str, Pt.lt_ix, slt, decide_eq_true_eq]
  have hn : PyProof.Rows.lexLt PyProof.Rows.itemOrd (PySem.W.keyToksAll []) (PySem.W.keyToksAll []) = false := by
    have := PySem.W.dataLt_self (.list [])
    rwa [PySem.W.dataLt_list] at this
  by_cases h1 : a = x
  · by_cases h2 : b = y
    · by_cases h3 : p = q
      · simp [h1, h2, h3, hn]
      · have h4 : ¬ p.ix = q.ix := fun z => h3 (Pt.ix_inj z)
        simp [h1, h2, h3]
    · have h5 : ((b : Int) < (y : Int)) ↔ b < y := by omega
      simp [h1, h2, h5]
  · have h5 : ((a : Int) < (x : Int)) ↔ a < x := by omega
    simp [h1, h5]
def sle (s t : Side) : Bool := !decide (slt t s)
theorem leT_eS (s t : Side) : leT (eS s) (eS t) = sle s t := by
  unfold leT sle
  rw [PySem.W.dataLe_eq]
  simp [dlt_eS]
def sortS (l : List Side) : List Side := l.mergeSort sle
theorem sort_eS (l : List Side) : (l.map eS).mergeSort leT = (sortS l).map eS := by
  unfold sortS
  rw [← map_mergeSort eS leT l]
  congr 1
  exact congrArg (fun le => l.mergeSort le) (funext fun a => funext fun b => leT_eS a b)
theorem slt_trans {a b c : Side} (h1 : slt a b) (h2 : slt b c) : slt a c := by unfold slt at *; omega
theorem slt_tri (a b : Side) : slt a b ∨ a = b ∨ slt b a := by
  obtain ⟨x, y, p⟩ := a
  obtain ⟨u, v, q⟩ := b
  unfold slt
  simp only
  by_cases h : p.ix = q.ix
  · have := Pt.ix_inj h
    subst this
    by_cases h1 : x = u
    · by_cases h2 : y = v
      · subst h1 h2; exact .inr (.inl rfl)
      · omega
    · omega
  · omega
theorem slt_irr (a : Side) : ¬ slt a a := by unfold slt; omega
theorem sle_iff {a b : Side} : sle a b = true ↔ slt a b ∨ a = b := by
  unfold sle
  simp only [Bool.not_eq_true', decide_eq_false_iff_not]
  constructor
  · intro h
    rcases slt_tri a b with q | q | q
    · exact .inl q
    · exact .inr q
    · exact absurd q h
  · rintro (h | h) q
    · exact slt_irr _ (slt_trans h q)
    · subst h; exact slt_irr _ q
/-- a strictly ascending list with the same members is the sorted one -/
theorem sortS_of {l m : List Side} (hm : m.Pairwise slt) (hl : l.Nodup) (h : ∀ s, s ∈ l ↔ s ∈ m) : sortS l = m := by
  have tot : ∀ a b, (sle a b || sle b a) = true := fun a b => by
    rw [Bool.or_eq_true, sle_iff, sle_iff]
    rcases slt_tri a b with q | q | q
    · exact .inl (.inl q)
    · exact .inl (.inr q)
    · exact .inr (.inl q)
  have tr : ∀ a b c, sle a b = true → sle b c = true → sle a c = true := fun a b c h1 h2 => by
    rw [sle_iff] at *
    rcases h1 with h1 | rfl
    · rcases h2 with h2 | rfl
      · exact .inl (slt_trans h1 h2)
      · exact .inl h1
    · exact h2
  have hs : (sortS l).Pairwise (fun a b => sle a b = true) := List.pairwise_mergeSort tr tot l
  have hm2 : m.Pairwise (fun a b => sle a b = true) := hm.imp fun h => sle_iff.mpr (.inl h)
  have nd : m.Nodup := hm.imp fun h e => by subst e; exact slt_irr _ h
  have hp : (sortS l).Perm m := (List.mergeSort_perm l sle).trans ((List.perm_ext_iff_of_nodup hl nd).mpr h)
  refine List.Perm.eq_of_pairwise (le := fun a b => sle a b = true) (fun a b _ _ h1 h2 => ?_) hs hm2 hp
  rw [sle_iff] at h1 h2
  rcases h1 with h1 | h1
  · rcases h2 with h2 | h2
    · exact absurd (slt_trans h1 h2) (slt_irr _)
    · exact h2.symm
  · exact h1
section
variable {b : Brd} {S : Sto}
theorem cells_asc : (cells b).Pairwise fun c d => c.1 < d.1 ∨ c.1 = d.1 ∧ c.2 < d.2 := by
  unfold cells
  refine List.Pairwise.filter _ ?_
  unfold allC
  rw [List.pairwise_flatMap]
  constructor
  · intro r _
    rw [List.pairwise_map]
    exact List.pairwise_lt_range.imp fun h => .inr ⟨rfl, h⟩
  · refine List.pairwise_lt_range.imp ?_
    intro r1 r2 h x hx y hy
    obtain ⟨c, _, rfl⟩ := List.mem_map.mp hx
    obtain ⟨d, _, rfl⟩ := List.mem_map.mp hy
    exact .inl h
theorem sides_asc : (sides b).Pairwise slt := by
  unfold sides
  rw [List.pairwise_flatMap]
  constructor
  · intro c _
    rw [List.pairwise_map]
    have : Pt.all.Pairwise fun p q => p.ix < q.ix := by decide
    exact this.imp fun h => .inr ⟨rfl, .inr ⟨rfl, h⟩⟩
  · refine cells_asc.imp ?_
    intro c d h x hx y hy
    obtain ⟨p, _, rfl⟩ := List.mem_map.mp hx
    obtain ⟨q, _, rfl⟩ := List.mem_map.mp hy
    unfold slt
    simp only
    omega
theorem ends_asc : (ends b).Pairwise slt := List.Pairwise.filter _ sides_asc
theorem mem_ends {s : Side} : s ∈ ends b ↔ (s.1, s.2.1) ∈ cells b ∧ beyond b s = none := by
  unfold ends
  rw [List.mem_filter, mem_sides]
  simp
theorem alike_eS (s t : Side) : PySem.W.alike (eS s).dat (eS t).dat = true := by simp [eS, T.dat, T.dats, PySem.W.alike, PySem.W.alikeAll]
theorem fSorted_core {l : List Side} {y : T} (hy : lstOf S y = some (l.map eS)) (h : l.length ≤ 1000000) : fSorted [y] S = .ok (.nlst ((sortS l).map eS)) S := by
  have c1 : (l.map eS).length ≤ sizeLine := by simp; omega
  have c2 : ((l.map eS).all fun t => fit t.dat && decide (t.dat.depth ≤ 60)) = true := by
    rw [List.all_eq_true]
    intro t ht
    obtain ⟨s, _, rfl⟩ := List.mem_map.mp ht
    rw [fit_eS]
    simp [eS, T.dat, T.dats, PyData.depth, PyData.depthAll]
  have c3 : alikeT (l.map eS) = true := by
    unfold alikeT
    rw [List.all_eq_true]
    intro t ht
    rw [List.all_eq_true]
    intro u hu
    obtain ⟨s, _, rfl⟩ := List.mem_map.mp ht
    obtain ⟨s', _, rfl⟩ := List.mem_map.mp hu
    exact alike_eS s s'
  have c4 : sortT (l.map eS) = true := by
    unfold sortT
    rw [Bool.or_eq_true]
    refine .inl (List.all_eq_true.mpr fun t ht => ?_)
    obtain ⟨s, _, rfl⟩ := List.mem_map.mp ht
    rfl
  unfold fSorted
  simp only [hy]
  rw [if_pos ⟨c1, c2, c3, c4⟩, sort_eS]
end
end Bd

/-! _law_same of a thing with itself -/
namespace Bd
open PySem PySem.Spec L2 Dn Pk
mutual
def Dt : T → Bool
  | .non => true
  | .bl _ => true
  | .int _ => true
  | .str _ => true
  | .tup ts => Dts ts
  | _ => false
def Dts : List T → Bool
  | [] => true
  | t :: ts => Dt t && Dts ts
end
mutual
def sz : T → Nat
  | .tup ts => 1 + szs ts
  | _ => 1
def szs : List T → Nat
  | [] => 0
  | t :: ts => sz t + szs ts
end
theorem Dts_all : ∀ {ts : List T}, Dts ts = true ↔ ∀ t ∈ ts, Dt t = true
  | [] => by simp [Dts]
  | t :: ts => by rw [Dts, Bool.and_eq_true, Dts_all]; simp
theorem szs_sum : ∀ {ts : List T}, szs ts = (ts.map sz).sum
  | [] => rfl
  | t :: ts => by rw [szs, szs_sum]; simp
theorem sz_pos (t : T) : 0 < sz t := by cases t <;> simp [sz] <;> omega
theorem len_szs : ∀ ts : List T, ts.length ≤ szs ts
  | [] => Nat.le_refl _
  | t :: ts => by
    have := len_szs ts
    have := sz_pos t
    rw [szs, List.length_cons]; omega
def srt : T → Int
  | .non => 0 | .bl _ => 1 | .int _ => 2 | .str _ => 3 | .tup _ => 4 | _ => 5
@[simp] theorem tyT_non {S : Sto} : tyT S .non = some "NoneType" := id rfl
@[simp] theorem tyT_bl {S : Sto} {b : Bool} : tyT S (.bl b) = some "bool" := id rfl
@[simp] theorem tyT_int {S : Sto} {b : Int} : tyT S (.int b) = some "int" := id rfl
@[simp] theorem tyT_str {S : Sto} {b : Str} : tyT S (.str b) = some "str" := id rfl
@[simp] theorem tyT_tup {S : Sto} {b : List T} : tyT S (.tup b) = some "tuple" := id rfl
@[simp] theorem tyT_lst {S : Sto} {b : List T} : tyT S (.lst b) = some "list" := id rfl
@[simp] theorem fIs_bl {S : Sto} {n b : Bool} : fIs n (.bl b) .non S = .ok (.bl n) S := id rfl
@[simp] theorem fIs_lst {S : Sto} {n : Bool} {b : List T} : fIs n (.lst b) .non S = .ok (.bl n) S := id rfl
theorem law_sort_ok {t : T} {S : Sto} (h : Dt t = true) : F__law_sort [t] S = .ok (.int (srt t)) S := by
  have i0 : fIndexL (.lst [.bl true, .bl false, .bl false, .bl false, .bl false, .bl false, .bl true]) [.bl true] S = .ok (.int 0) S := rfl
  have i1 : fIndexL (.lst [.bl false, .bl true, .bl true, .bl false, .bl false, .bl false, .bl true]) [.bl true] S = .ok (.int 1) S := rfl
  have i2 : fIndexL (.lst [.bl false, .bl false, .bl true, .bl false, .bl false, .bl false, .bl true]) [.bl true] S = .ok (.int 2) S := rfl
  have i3 : fIndexL (.lst [.bl false, .bl false, .bl false, .bl true, .bl false, .bl false, .bl true]) [.bl true] S = .ok (.int 3) S := rfl
  have i4 : fIndexL (.lst [.bl false, .bl false, .bl false, .bl false, .bl true, .bl false, .bl true]) [.bl true] S = .ok (.int 4) S := rfl
  cases t with
  | non =>
    simp [F__law_sort, dFun_eq, b__law_sort, isaB, i0]
    rw [gcT_same (by simp)]; rfl
  | bl b =>
    simp [F__law_sort, dFun_eq, b__law_sort, isaB, i1]
    rw [gcT_same (by simp)]; rfl
  | int b =>
    simp [F__law_sort, dFun_eq, b__law_sort, isaB, i2]
    rw [gcT_same (by simp)]; rfl
  | str b =>
    simp [F__law_sort, dFun_eq, b__law_sort, isaB, i3]
    rw [gcT_same (by simp)]; rfl
  | tup b =>
    simp [F__law_sort, dFun_eq, b__law_sort, isaB, i4]
    rw [gcT_same (by simp)]; rfl
  | _ => simp [Dt] at h
theorem eq_self_ok {u : T} {S : Sto} (h : Dt u = true) (h4 : srt u < 4) : fEq true u u S = .ok (.bl false) S := by
  cases u with
  | non => rfl
  | bl b => simp
  | int b => simp
  | str b => simp
  | tup b => simp [srt] at h4
  | _ => simp [Dt] at h
theorem law_same_ok {t : T} {S : Sto} (h : Dt t = true) (hs : sz t ≤ 1000000) : F__law_same [t, t] S = .ok (.bl true) S := by
  let sh := fun (a b c d : Option T) => [some t, some t, some (T.ref S.length), a, b, c, d]
  have hfz : ∀ u, Dt u = true → fz u = u := fun u hu => by cases u <;> first | rfl | simp [Dt] at hu
  let pr := fun u : T => T.tup [u, u]
  simp only [F__law_same, dFun_eq (np := 2) (n := 7) (ts := [t, t]) rfl, b__law_same]
  simp [hfz t h]
  have hstep := while_inv (c := dTest (dBin fGT (dCall fLen (dCons (dVar 2) dNil)) (dC (.int 0)))) (b := L__law_same_1)
    (fun m sl S' => ∃ st : List T, (∀ u ∈ st, Dt u = true) ∧ m = szs st ∧ m ≤ 1000000 ∧ S' = S ++ [.lst (st.map pr)] ∧ ∃ a b c d, sl = sh a b c d) (fun sl S' => S' = S ++ [.lst []]) (by
    rintro m sl S' ⟨st, hD, rfl, hm, rfl, a, b, c, d, rfl⟩
    rcases List.eq_nil_or_concat st with rfl | ⟨st', u, rfl⟩
    · refine .inr ⟨S ++ [.lst []], ?_, rfl⟩
      simp [sh]
    · left
      rw [List.concat_eq_append] at hD hm ⊢
      have hu : Dt u = true := hD u (by simp)
      have hD' : ∀ v ∈ st', Dt v = true := fun v hv => hD v (by simp [hv])
      have ez : szs (st' ++ [u]) = szs st' + sz u := by simp [szs_sum]
      have hp := sz_pos u
      have ls := len_szs st'
      rw [ez] at hm ⊢
      refine ⟨S ++ [.lst (st'.map pr ++ [pr u])], ?_⟩
      have e0 : dTest (dBin fGT (dCall fLen (dCons (dVar 2) dNil)) (dC (.int 0))) (sh a b c d) (S ++ [.lst ((st' ++ [u]).map pr)]) = .ok true (S ++ [.lst (st'.map pr ++ [pr u])]) := by
        simp [sh]
      by_cases h4 : srt u < 4
      · refine ⟨szs st', sh (some u) (some u) (some (.int (srt u))) d, S ++ [.lst (st'.map pr)], e0, by omega, .inl ?_, st', hD', rfl, by omega, rfl, _, _, _, _, rfl⟩
        simp [L__law_same_1, sh, pr, hfz u hu, law_sort_ok hu, h4, eq_self_ok hu h4]
      · obtain ⟨us, rfl⟩ : ∃ us, u = .tup us := by
          cases u with
          | tup us => exact ⟨us, rfl⟩
          | non => simp [srt] at h4
          | bl _ => simp [srt] at h4
          | int _ => simp [srt] at h4
          | str _ => simp [srt] at h4
          | _ => simp [Dt] at hu
        have hus : ∀ v ∈ us, Dt v = true := Dts_all.mp (by simpa [Dt] using hu)
        have lu := len_szs us
        have esz : sz (.tup us) = 1 + szs us := by simp [sz]
        let fr := fun k : Nat => [pr (us[k]?.getD .non)]
        obtain ⟨sl', q1, x', rfl⟩ := for_app (S := S) (src := none) (all := (List.range us.length).map fun k => T.int (k : Nat)) (g := gN 6) (b := L__law_same_0) (fun k : Nat => T.int k) fr (fun sl => ∃ x, sl = sh (some (.tup us)) (some (.tup us)) (some (.int 4)) x) 1 2000000 (fun _ => trivial)
          (List.range us.length) (st'.map pr) (sh (some (.tup us)) (some (.tup us)) (some (.int 4)) d) (fun _ _ => by simp [fr]) (fun k hk acc sl ⟨x, e⟩ hl => by
            subst e
            refine ⟨_, _, sh (some (.tup us)) (some (.tup us)) (some (.int 4)) (some (T.int (k : Nat))), gN_eq _, .inl ?_, _, rfl⟩
            have hk' : k < us.length := by simpa using hk
            have : acc.length < 16777216 := by omega
            have hv := hfz us[k] (hus _ (List.getElem_mem hk'))
            simp [L__law_same_0, sh, this, fr, pr, atI_n, List.getElem?_eq_getElem hk', hv]) (by simp; omega) ⟨d, rfl⟩
        refine ⟨szs st' + szs us, sh (some (.tup us)) (some (.tup us)) (some (.int 4)) x', S ++ [.lst ((st' ++ us).map pr)], e0, by rw [esz]; omega, .inl ?_, st' ++ us, fun v hv => (List.mem_append.mp hv).elim (hD' v) (hus v), by simp [szs_sum], by rw [esz] at hm; omega, rfl, _, _, _, _, rfl⟩
        have e1 : (List.range us.length).flatMap fr = us.map pr := by
          rw [← List.map_eq_flatMap (f := fun k : Nat => pr (us[k]?.getD .non))]
          apply List.ext_getElem?
          intro k
          by_cases hk : k < us.length
          · rw [List.getElem?_map, List.getElem?_range hk, List.getElem?_map, List.getElem?_eq_getElem hk]
            simp [List.getElem?_eq_getElem hk]
          · rw [List.getElem?_eq_none (by simp; omega), List.getElem?_eq_none (by simp; omega)]
        rw [e1, ← List.map_append] at q1
        have es : srt (.tup us) = 4 := rfl
        have hr : dRng1 (dCons (dCall fLen (dCons (dVar 4) dNil)) dNil) (sh (some (.tup us)) (some (.tup us)) (some (.int 4)) d) (S ++ [.lst (st'.map pr)]) = .ok none ((List.range us.length).map fun k => T.int (k : Nat)) (S ++ [.lst (st'.map pr)]) := dRng1_eq (n := us.length) (by simp [sh]) (by omega)
        have hf := dFor_eq (dRng1 (dCons (dCall fLen (dCons (dVar 4) dNil)) dNil)) (gN 6) L__law_same_0 _ _ hr
        simp only [sh] at q1 hf
        simp [L__law_same_1, sh, pr, law_sort_ok hu, es]
        simp only [pr] at q1 hf
        rw [hf, q1]
        simp)
  obtain ⟨sl', S', q1, rfl⟩ := hstep FUEL (sz t) (sh none none none none) (S ++ [.lst [pr t]]) ⟨[t], by simpa using h, by simp [szs], hs, rfl, _, _, _, _, rfl⟩ (by unfold FUEL; omega)
  simp only [sh, pr] at q1
  rw [dWhile_eq, q1]
  simp
  rw [gcT_app (by simp)]
end Bd

/-! claims, asks, denials -/
namespace Bd
open PySem PySem.Spec L2 Dn Pk
inductive Claim where
  | out (e : Side) (t : List Side) | meet (e t : Side) | thr (e : Side) (c : Cell)
def eL (l : List Side) : T := .tup (l.map eS)
def eCl : Claim → T
  | .out e t => .tup [.str "out", eS e, eL t]
  | .meet e t => .tup [.str "meet", eS e, eS t]
  | .thr e c => .tup [.str "through", eS e, eC c]
abbrev Ask := Brd × List Side × List Side
def eA (a : Ask) : T := .tup [eB a.1, eL a.2.1, eL a.2.2]
@[simp] theorem lt_eL (n : Nat) (l : List Side) : (eL l).lt n = true := by simp [eL, ltsM]
@[simp] theorem fz_eL (l : List Side) : fz (eL l) = eL l := id rfl
@[simp] theorem fz_eA (l : Ask) : fz (eA l) = eA l := id rfl
@[simp] theorem lt_eA (n : Nat) (l : Ask) : (eA l).lt n = true := by simp [eA]
@[simp] theorem fz_eCl (c : Claim) : fz (eCl c) = eCl c := by cases c <;> rfl
def faces (b : Brd) (c : Cell) : List Side := Pt.all.filterMap fun p => beyond b (c.1, c.2, p)
def hits (b : Brd) (c : Cell) (s : Side) : Bool := match beyond b s with
  | some t => decide ((t.1, t.2.1) = c)
  | none => false
theorem hits_none {b : Brd} {c : Cell} {s : Side} (h : beyond b s = none) : hits b c s = false := by unfold hits; rw [h]
theorem hits_some {b : Brd} {c : Cell} {s t : Side} (h : beyond b s = some t) : hits b c s = decide ((t.1, t.2.1) = c) := by unfold hits; rw [h]
def mayOf (b : Brd) (c : Cell) : List Side := (ends (shut b c)).filter (hits b c)
@[simp] theorem fIs_eS {n : Bool} {s : Side} {S : Sto} : fIs n (eS s) .non S = .ok (.bl n) S := id rfl
section
variable {b : Brd} {S : Sto} (W : WB b)
include W
theorem beyond_some {s t : Side} : beyond b s = some t ↔ open' b (s.1 + s.2.2.dn) (s.2.1 + s.2.2.rt) = true ∧ (t.1 : Int) = s.1 + s.2.2.dn ∧ (t.2.1 : Int) = s.2.1 + s.2.2.rt ∧ t.2.2 = s.2.2.opp := by
  obtain ⟨r, c, p⟩ := s
  obtain ⟨x, y, q⟩ := t
  unfold beyond
  simp only
  constructor
  · intro h
    split at h
    · rename_i ho
      obtain ⟨h1, _, h2, _⟩ := open_nonneg ho
      simp only [Option.some.injEq, Prod.mk.injEq] at h
      obtain ⟨rfl, rfl, rfl⟩ := h
      exact ⟨ho, by omega, by omega, rfl⟩
    · cases h
  · rintro ⟨h1, h2, h3, rfl⟩
    rw [if_pos h1, ← h2, ← h3]
    simp
omit W in
theorem open_cell {r c : Nat} : open' b r c = true ↔ (r, c) ∈ cells b := by
  rw [mem_cells]
  unfold open'
  simp [and_assoc]
omit W in
theorem opp_dn (p : Pt) : p.opp.dn = -p.dn := by cases p <;> rfl
omit W in
theorem opp_rt (p : Pt) : p.opp.rt = -p.rt := by cases p <;> rfl
omit W in
theorem opp_opp (p : Pt) : p.opp.opp = p := by cases p <;> rfl
omit W in
theorem move_ne (p : Pt) : ¬ (p.dn = 0 ∧ p.rt = 0) := by cases p <;> simp [Pt.dn, Pt.rt]
theorem faces_may {d : Cell} (hd : d ∈ cells b) : sortS (faces b d) = mayOf b d := by
  obtain ⟨dr, dc⟩ := d
  have hd' := mem_cells.mp hd
  simp only at hd'
  refine sortS_of (List.Pairwise.filter _ ends_asc) ?_ fun s => ?_
  · unfold faces
    refine List.Pairwise.filterMap _ ?_ (by decide : Pt.all.Nodup)
    intro p q hpq x hx y hy e
    subst e
    obtain ⟨_, _, _, h1⟩ := (beyond_some W).mp hx
    obtain ⟨_, _, _, h2⟩ := (beyond_some W).mp hy
    simp only at h1 h2
    rw [h1] at h2
    exact hpq (by rw [← opp_opp p, ← opp_opp q, h2])
  · obtain ⟨r, c, q⟩ := s
    unfold faces mayOf hits
    simp only [List.mem_filterMap, List.mem_filter, mem_ends]
    constructor
    · rintro ⟨p, _, hp⟩
      obtain ⟨h1, h2, h3, h4⟩ := (beyond_some W).mp hp
      simp only at h1 h2 h3 h4
      subst h4
      rw [← h2, ← h3] at h1
      have hc := mem_cells.mp (open_cell.mp h1)
      simp only at hc
      have ne : (r, c) ≠ (dr, dc) := fun e => by
        simp only [Prod.mk.injEq] at e
        exact move_ne p ⟨by omega, by omega⟩
      have back : beyond b (r, c, p.opp) = some (dr, dc, p) := by
        rw [beyond_some W]
        simp only [opp_dn, opp_rt, opp_opp, and_true]
        have e1 : (r : Int) + -p.dn = (dr : Nat) := by omega
        have e2 : (c : Int) + -p.rt = (dc : Nat) := by omega
        rw [e1, e2]
        exact ⟨open_cell.mpr hd, rfl, rfl⟩
      refine ⟨⟨?_, ?_⟩, ?_⟩
      · rw [mem_cells, len_shut, wd_shut W]
        refine ⟨hc.1, hc.2.1, ?_⟩
        simp only
        rw [at_shut hc.1 hc.2.1, if_neg ne]
        exact hc.2.2
      · unfold beyond
        simp only [opp_dn, opp_rt]
        have e1 : (r : Int) + -p.dn = (dr : Nat) := by omega
        have e2 : (c : Int) + -p.rt = (dc : Nat) := by omega
        rw [e1, e2, if_neg]
        intro h
        have := (mem_cells.mp (open_cell.mp h)).2.2
        simp only at this
        rw [at_shut hd'.1 hd'.2.1, if_pos rfl] at this
        exact this rfl
      · rw [back]
        simp
    · rintro ⟨⟨h1, h2⟩, h3⟩
      split at h3
      · rename_i t ht
        obtain ⟨x, y, z⟩ := t
        simp only [decide_eq_true_eq, Prod.mk.injEq] at h3
        obtain ⟨rfl, rfl⟩ := h3
        obtain ⟨k1, k2, k3, k4⟩ := (beyond_some W).mp ht
        simp only at k1 k2 k3 k4
        refine ⟨q.opp, Pt.mem_all _, ?_⟩
        rw [beyond_some W]
        simp only [opp_dn, opp_rt, opp_opp, and_true]
        have e1 : (x : Int) + -q.dn = (r : Nat) := by omega
        have e2 : (y : Int) + -q.rt = (c : Nat) := by omega
        rw [e1, e2]
        refine ⟨open_cell.mpr ?_, rfl, rfl⟩
        rw [mem_cells, len_shut, wd_shut W] at h1
        obtain ⟨g1, g2, g3⟩ := h1
        simp only at g1 g2 g3
        rw [mem_cells]
        refine ⟨g1, g2, ?_⟩
        rw [at_shut g1 g2] at g3
        split at g3
        · exact absurd rfl g3
        · exact g3
      · cases h3
theorem facing_cell_ok {r c : Nat} : F_facing_cell [eB b, .int r, .int c] S = .ok (eL (sortS (faces b (r, c)))) S := by
  let sh := fun (x y z : Option T) => [some (eB b), some (T.int r), some (T.int c), some (T.ref S.length), x, y, z]
  let fr := fun p : Pt => (match beyond b (r, c, p) with
    | some s => [eS s]
    | none => [] : List T)
  simp only [F_facing_cell, dFun_eq (np := 3) (n := 7) (ts := [eB b, T.int r, T.int c]) rfl, b_facing_cell]
  simp
  rw [dFor_eq _ _ _ _ _ (dIt_eq (t := c_POINTS) (by simp; rfl) (by rw [fz_c_POINTS]; exact pts_it))]
  obtain ⟨sl', q1, x', y', z', rfl⟩ := for_app (S := S) (src := none) (all := Pt.all.map fun p => T.str p.str) (g := gN 4) (b := L_facing_cell_0) (fun p : Pt => T.str p.str) fr (fun sl => ∃ x y z, sl = sh x y z) 1 100 (fun _ => trivial)
      Pt.all [] (sh none none none) (fun p _ => by simp only [fr]; split <;> simp) (fun p _ acc sl ⟨x, y, z, e⟩ hl => by
        subst e
        have : acc.length < 16777216 := by omega
        refine ⟨_, _, sh (some (.str p.str)) (some (.int (r + p.dn))) (some (.int (c + p.rt))), gN_eq _, .inl ?_, _, _, _, rfl⟩
        simp only [fr, beyond]
        cases ho : open' b (r + p.dn) (c + p.rt) with
        | false => simp [L_facing_cell_0, sh, next_cell_ok, is_open_ok W, ho]
        | true =>
          obtain ⟨h1, _, h2, _⟩ := open_nonneg ho
          obtain ⟨r', hr⟩ := Int.eq_ofNat_of_zero_le h1
          obtain ⟨c', hc⟩ := Int.eq_ofNat_of_zero_le h2
          rw [hr, hc] at ho
          simp [L_facing_cell_0, sh, next_cell_ok, is_open_ok W, ho, hr, hc, opps, this, eS]) (by simp [Pt.all]) ⟨none, none, none, rfl⟩
  simp only [sh] at q1
  rw [q1]
  have e : ([] ++ Pt.all.flatMap fr) = (faces b (r, c)).map eS := by
    simp only [List.nil_append, faces, fr]
    generalize Pt.all = ps
    induction ps with
    | nil => rfl
    | cons p ps ih =>
      rw [List.flatMap_cons, ih, List.filterMap_cons]
      cases beyond b (r, c, p) <;> rfl
  rw [e]
  have hl : (faces b (r, c)).length ≤ 1000000 := Nat.le_trans (List.length_filterMap_le _ _) (by simp [Pt.all])
  simp [fSorted_core (S := S ++ [.lst ((faces b (r, c)).map eS)]) (y := .ref S.length) lstOf_top hl]
  have e2 : T.tup ((sortS (faces b (r, c))).map eS) = eL (sortS (faces b (r, c))) := rfl
  rw [e2, gcT_app (by simp)]
/-- what is asked -/
def ask (b : Brd) : Claim → Ask
  | .out e t => (b, [e], t)
  | .meet e t => (b, [e], [t])
  | .thr e c => (shut b c, [e], mayOf b c)
def Claim.ok (b : Brd) : Claim → Prop
  | .out e t => t.length ≤ 40000
  | .meet e t => True
  | .thr e c => c ∈ cells b
omit W in
theorem s_mo : ¬ (("meet" : Str) = "out") := by decide +kernel
omit W in
theorem s_to : ¬ (("through" : Str) = "out") := by decide +kernel
omit W in
theorem s_tm : ¬ (("through" : Str) = "meet") := by decide +kernel
omit W in
theorem eA_def (a : Brd) (m t : List Side) : T.tup [eB a, eL m, eL t] = eA (a, m, t) := rfl
omit W in
theorem eL1 (s : Side) : T.tup [eS s] = eL [s] := rfl
theorem ask_of_ok {cl : Claim} (h : cl.ok b) : F_ask_of [eB b, eCl cl] S = .ok (eA (ask b cl)) S := by
  cases cl with
  | out e t =>
    simp [F_ask_of, dFun_eq, b_ask_of, eCl, eL1, eA_def]
    rw [gcT_same (by simp)]
    rfl
  | meet e t =>
    simp [F_ask_of, dFun_eq, b_ask_of, eCl, s_mo, eL1, eA_def]
    rw [gcT_same (by simp)]
    rfl
  | thr e c =>
    have hc : c ∈ cells b := h
    obtain ⟨h1, h2, _⟩ := mem_cells.mp hc
    have p := put_kind_ok W (S := S) (k := "") h1 h2
    have f := facing_cell_ok W (S := S) (r := c.1) (c := c.2)
    rw [put_shut W h1 h2] at p
    rw [show ((c.1, c.2) : Cell) = c from rfl] at p f
    rw [faces_may W hc] at f
    have i0 : fIx (eC c) (.int 0) S = .ok (.int c.1) S := by simp [eC]
    have i1 : fIx (eC c) (.int 1) S = .ok (.int c.2) S := by simp [eC]
    simp [F_ask_of, dFun_eq, b_ask_of, eCl, s_to, s_tm, eL1, eA_def, p, f, i0, i1]
    rw [gcT_same (by simp)]
    rfl
theorem len_ends : (ends b).length ≤ 40000 := Nat.le_trans (List.length_filter_le _ _) (len_sides W)
theorem law_ask_ok {cl : Claim} (h : cl.ok b) : F__law_ask [eB b, eCl cl] S = .ok (eA (ask b cl)) S := by
  cases cl with
  | out e t =>
    simp [F__law_ask, dFun_eq, b__law_ask, eCl, eL1, eA_def]
    rw [gcT_same (by simp)]
    rfl
  | meet e t =>
    simp [F__law_ask, dFun_eq, b__law_ask, eCl, s_mo, eL1, eA_def]
    rw [gcT_same (by simp)]
    rfl
  | thr e c =>
    have hc : c ∈ cells b := h
    have W2 : WB (shut b c) := WB_shut W
    have hl := len_ends W2
    let sh := fun (x y : Option T) => [some (eB b), some (eCl (.thr e c)), some (eB (shut b c)), some (T.ref S.length), x, y]
    let fr := fun s : Side => (if hits b c s = true then [eS s] else [] : List T)
    have i2 : ∀ S', fIx (eCl (.thr e c)) (.int 2) S' = .ok (eC c) S' := fun S' => by simp [eCl]
    have i0 : ∀ S', fIx (eCl (.thr e c)) (.int 0) S' = .ok (.str "through") S' := fun S' => by simp [eCl]
    have i1 : ∀ S', fIx (eCl (.thr e c)) (.int 1) S' = .ok (eS e) S' := fun S' => by simp [eCl]
    simp only [F__law_ask, dFun_eq (np := 2) (n := 6) (ts := [eB b, eCl (.thr e c)]) rfl, b__law_ask]
    simp [i0, i1, i2, s_to, s_tm, law_shut_ok W]
    rw [dFor_eq _ _ _ _ _ (dIt_eq (t := .nlst ((ends (shut b c)).map eS)) (src := none) (ts := (ends (shut b c)).map eS) (by simp [law_ends_ok W2]; rfl) rfl)]
    obtain ⟨sl', q1, x', y', rfl⟩ := for_app (S := S) (src := none) (all := (ends (shut b c)).map eS) (g := gN 4) (b := L__law_ask_0) eS fr (fun sl => ∃ x y, sl = sh x y) 1 1000000 (fun _ => trivial)
      (ends (shut b c)) [] (sh none none) (fun p _ => by simp only [fr]; split <;> simp) (fun s _ acc sl ⟨x, y, e⟩ hl => by
        subst e
        have : acc.length < 16777216 := by omega
        refine ⟨_, _, sh (some (eS s)) (some (eO (beyond b s))), gN_eq _, .inl ?_, _, _, rfl⟩
        simp only [fr]
        have hb := law_beyond_ok W (S := S ++ [.lst acc]) (s := s)
        cases ho : beyond b s with
        | none =>
          rw [ho] at hb
          simp [L__law_ask_0, sh, hb, hits_none ho]
        | some t =>
          rw [ho] at hb
          by_cases hq : (t.1, t.2.1) = c
          · simp [L__law_ask_0, sh, hb, eO, i2, hq, this, hits_some ho]
          · simp [L__law_ask_0, sh, hb, eO, i2, hq, this, hits_some ho]) (by simp; omega) ⟨none, none, rfl⟩
    simp only [sh] at q1
    rw [q1]
    have e' : ([] ++ (ends (shut b c)).flatMap fr) = (mayOf b c).map eS := by
      simp only [List.nil_append, mayOf, fr]
      generalize ends (shut b c) = ps
      induction ps with
      | nil => rfl
      | cons p ps ih =>
        rw [List.flatMap_cons, ih, List.filter_cons]
        split <;> simp
    rw [e']
    have e2 : T.tup ((mayOf b c).map eS) = eL (mayOf b c) := rfl
    simp [i1, e2, eL1, eA_def]
    rw [gcT_app (by simp)]
    rfl
/-- the denial -/
def denial (a : Ask) : Ask := (a.1, a.2.1, (ends a.1).filter fun s => !decide (s ∈ a.2.1) && !decide (s ∈ a.2.2))
omit W in
@[simp] theorem fIn_eL {n : Bool} {s : Side} {l : List Side} : fIn n (eS s) (eL l) S = .ok (.bl (if n then !decide (s ∈ l) else decide (s ∈ l))) S := fIn_tS
theorem WB_ask {cl : Claim} : WB (ask b cl).1 := by
  cases cl with
  | out e t => exact W
  | meet e t => exact W
  | thr e c => exact WB_shut W
omit W in
theorem law_denial_ok {a : Ask} (W : WB a.1) : F__law_denial [eA a] S = .ok (eA (denial a)) S := by
  obtain ⟨a, m, t⟩ := a
  have hl : (ends a).length ≤ 40000 := len_ends W
  have hc : ∀ x, C__law_denial_0 [some (eA (a, m, t)), some (eB a), some (eL m), some (eL t), x] S = .ok (.nlst ((denial (a, m, t)).2.2.map eS)) S := by
    intro x
    unfold C__law_denial_0
    rw [dLc_eq _ _ _ _ _ _ _ (dIt_eq (t := .nlst ((ends a).map eS)) (src := none) (ts := (ends a).map eS) (by simp [law_ends_ok W]; rfl) rfl)]
    rw [lcL_map still_none eS (fun s => !decide (s ∈ m) && !decide (s ∈ t)) eS (ends a) [] ?_ (by simp; omega)]
    · simp [denial]
    · intro s hm
      refine ⟨[some (eA (a, m, t)), some (eB a), some (eL m), some (eL t), some (eS s)], by simp [wipeT], ?_, fun _ => ?_⟩
      · by_cases h1 : s ∈ m
        · simp [h1]
        · simp [h1]
      · refine ⟨eS s, ?_, rfl⟩
        simp
  have ht : tupOf (eA (a, m, t)) = some [eB a, eL m, eL t] := rfl
  have e2 : ∀ l : List Side, T.tup (l.map eS) = eL l := fun _ => rfl
  simp [F__law_denial, dFun_eq, b__law_denial, ht, hc, e2, eA_def]
  rw [gcT_same (by simp)]
  rfl
theorem denial_of_ok {cl : Claim} (h : cl.ok b) : F_denial_of [eB b, eCl cl] S = .ok (eA (denial (ask b cl))) S := by
  have W2 := WB_ask W (cl := cl)
  have ha := ask_of_ok W (S := S) h
  revert ha W2
  generalize ask b cl = a
  intro W2 ha
  obtain ⟨a, m, t⟩ := a
  have hl : (ends a).length ≤ 40000 := len_ends W2
  have hc : ∀ x y, C_denial_of_0 [some (eB b), some (eCl cl), some (eB a), some (eL m), some (eL t), x, y] S = .ok (.nlst ((denial (a, m, t)).2.2.map eS)) S := by
    intro x y
    unfold C_denial_of_0
    rw [dLc_eq _ _ _ _ _ _ _ (dIt_eq (t := .tup ((ends a).map eS)) (src := none) (ts := (ends a).map eS) (by simp [ends_of_ok W2]; rfl) rfl)]
    rw [lcL_map still_none eS (fun s => !decide (s ∈ m) && !decide (s ∈ t)) eS (ends a) [] ?_ (by simp; omega)]
    · simp [denial]
    · intro s hm
      refine ⟨[some (eB b), some (eCl cl), some (eB a), some (eL m), some (eL t), x, some (eS s)], by simp [wipeT], ?_, fun _ => ?_⟩
      · by_cases h1 : s ∈ m
        · simp [h1]
        · simp [h1]
      · refine ⟨eS s, ?_, rfl⟩
        simp
  have ht : tupOf (eA (a, m, t)) = some [eB a, eL m, eL t] := rfl
  have e2 : ∀ l : List Side, T.tup (l.map eS) = eL l := fun _ => rfl
  simp [F_denial_of, dFun_eq, b_denial_of, ha, ht, hc, e2, eA_def]
  rw [gcT_same (by simp)]
  rfl
end
end Bd

/-! both are the same -/
namespace Bd
open PySem PySem.Spec L2 Dn Pk
theorem Dts_map {α : Type} {f : α → T} {xs : List α} (h : ∀ x ∈ xs, Dt (f x) = true) : Dts (xs.map f) = true := by
  rw [Dts_all]
  intro t ht
  obtain ⟨x, hx, rfl⟩ := List.mem_map.mp ht
  exact h x hx
theorem szs_map {α : Type} {f : α → T} {n : Nat} : ∀ {xs : List α}, (∀ x ∈ xs, sz (f x) ≤ n) → szs (xs.map f) ≤ xs.length * n
  | [], _ => by simp [szs]
  | x :: xs, h => by
    have := szs_map (f := f) (n := n) (xs := xs) fun z hz => h z (List.mem_cons_of_mem _ hz)
    have := h x List.mem_cons_self
    rw [List.map_cons, szs, List.length_cons, Nat.succ_mul]; omega
@[simp] theorem Dt_eS (s : Side) : Dt (eS s) = true := by simp [eS, Dt, Dts]
@[simp] theorem Dt_eL (l : List Side) : Dt (eL l) = true := by
  unfold eL
  rw [Dt]
  exact Dts_map fun s _ => Dt_eS s
@[simp] theorem Dt_eB (b : Brd) : Dt (eB b) = true := by
  unfold eB
  rw [Dt]
  exact Dts_map fun r _ => by
    unfold eR
    rw [Dt]
    exact Dts_map fun s _ => rfl
@[simp] theorem Dt_eA (a : Ask) : Dt (eA a) = true := by simp [eA, Dt, Dts]
theorem sz_eS (s : Side) : sz (eS s) = 4 := by simp [eS, sz, szs]
theorem sz_eL (l : List Side) : sz (eL l) ≤ 1 + l.length * 4 := by
  unfold eL
  rw [sz]
  have := szs_map (f := eS) (n := 4) (xs := l) fun s _ => by rw [sz_eS]; omega
  omega
theorem sz_eB {b : Brd} (W : WB b) : sz (eB b) ≤ 20000 := by
  unfold eB
  rw [sz]
  have h1 := W.few
  have h2 := W.fewc
  have := szs_map (f := eR) (n := 101) (xs := b) fun r hr => by
    unfold eR
    rw [sz]
    have := szs_map (f := T.str) (n := 1) (xs := r) fun s _ => by simp [sz]
    have := W.rect r hr
    omega
  omega
theorem sz_eA {a : Ask} (W : WB a.1) (h1 : a.2.1.length ≤ 40000) (h2 : a.2.2.length ≤ 40000) : sz (eA a) ≤ 1000000 := by
  have e : sz (eA a) = 1 + (sz (eB a.1) + (sz (eL a.2.1) + (sz (eL a.2.2) + 0))) := by simp [eA, sz, szs]
  have := sz_eB W
  have := sz_eL a.2.1
  have := sz_eL a.2.2
  omega
section
variable {b : Brd} {S : Sto} (W : WB b)
include W
theorem ask_len {cl : Claim} (h : cl.ok b) : (ask b cl).2.1.length ≤ 40000 ∧ (ask b cl).2.2.length ≤ 40000 := by
  cases cl with
  | out e t => exact ⟨by simp [ask], h⟩
  | meet e t => simp [ask]
  | thr e c =>
    refine ⟨by simp [ask], ?_⟩
    exact Nat.le_trans (List.length_filter_le _ _) (len_ends (WB_shut W))
theorem law_right_ok {cl : Claim} (h : cl.ok b) : F__law_right [eB b, eCl cl] S = .ok (.bl true) S := by
  obtain ⟨l1, l2⟩ := ask_len W h
  have W2 := WB_ask W (cl := cl)
  have a1 := ask_of_ok W (S := S) h
  have a2 := law_ask_ok W (S := S) h
  have a3 := denial_of_ok W (S := S) h
  have a4 := law_denial_ok (S := S) W2
  have s1 := law_same_ok (t := eA (ask b cl)) (S := S) (by simp) (sz_eA W2 l1 l2)
  have s2 := law_same_ok (t := eA (denial (ask b cl))) (S := S) (by simp) (sz_eA (by exact W2) (by exact l1) (Nat.le_trans (List.length_filter_le _ _) (len_ends W2)))
  simp [F__law_right, dFun_eq, b__law_right, a1, a2, a3, a4, s1, s2, permL]
  rw [gcT_same (by simp)]
end
end Bd

/-! the law's well: whatever it tells is within its bound -/
namespace Bd
open PySem PySem.Spec L2 Dn Pk
/-! ### the well -/
def Well (S : Sto) : Prop := ∃ (st : Int) (ds : List Int), S[1]? = some (.lst (ds.map T.int)) ∧ S[2]? = some (.lst [.int st, .ref 1])
structure Wl (S S' : Sto) : Prop where
  len : S'.length = S.length
  w : Well S'
  out : ∀ i : Nat, i ≠ 1 → i ≠ 2 → S'[i]? = S[i]?
theorem ltsI (n : Nat) (ds : List Int) : T.lts n (ds.map T.int) = true := ltsM fun _ _ => rfl
theorem Wl.cut {S S' : Sto} (h : Wl S S') : CutOk S S' := by
  obtain ⟨h1, ⟨st, ds, w1, w2⟩, h2⟩ := h
  have hl : 2 < S'.length := (List.getElem?_eq_some_iff.mp w2).1
  refine ⟨by omega, fun i hi o ho => ?_⟩
  by_cases e1 : i = 1
  · subst e1
    rw [w1] at ho; cases ho
    exact .inr (ltsI _ _)
  · by_cases e2 : i = 2
    · subst e2
      rw [w2] at ho; cases ho
      refine .inr ?_
      simp [MO.lt, T.lts, T.lt]
      omega
    · exact .inl (by rw [← h2 i e1 e2]; exact ho)
theorem Wl.refl {S : Sto} (h : Well S) : Wl S S := ⟨rfl, h, fun _ _ _ => rfl⟩
theorem Wl.trans {S S1 S2 : Sto} (a : Wl S S1) (b : Wl S1 S2) : Wl S S2 := ⟨b.len.trans a.len, b.w, fun i h1 h2 => (b.out i h1 h2).trans (a.out i h1 h2)⟩
theorem Wl.take {S S' : Sto} (h : Wl S S') : S'.take S.length = S' := by rw [← h.len]; simp
theorem Wl.gcT {S S' : Sto} (h : Wl S S') {t : T} (ht : t.lt S.length = true) : gcT S t S' = .ok t S' := by rw [gcT_cut h.cut ht, h.take]
theorem l53 : Nat.log2 53 < 9000 := by decide +kernel
theorem dip_ok {S : Sto} (hw : Well S) {n : Int} (hn : n < 2 ^ 60) : ∃ told S', F__law_dip [.ref 2, .int n] S = .ok (.int told) S' ∧ 0 ≤ told ∧ (told < n ∨ told = 0 ∧ n < 2) ∧ Wl S S' := by
  have hw0 := hw
  obtain ⟨st, ds, h1, h2⟩ := hw
  have hl : 2 < S.length := (List.getElem?_eq_some_iff.mp h2).1
  by_cases hc : n < 2
  · refine ⟨0, S, ?_, Int.le_refl _, .inr ⟨rfl, hc⟩, .refl hw0⟩
    simp [F__law_dip, dFun_eq, b__law_dip, hc]
    rw [gcT_same (by simp)]
  · have n0 : 0 < n := by omega
    rcases List.eq_nil_or_concat ds with rfl | ⟨ds', d, rfl⟩
    · -- the stir
      have w : Wl S (S.set 2 (.lst [.int ((st * 46649 + 5501) % 2147483629), .ref 1])) := ⟨by simp, ⟨_, [], by simp [h1], by simp [hl]; rfl⟩, fun i _ h => by simp [List.getElem?_set_ne (Ne.symm h)]⟩
      refine ⟨(((st * 46649 + 5501) % 2147483629) / 53) % n, _, ?_, Int.emod_nonneg _ (by omega), .inl (Int.emod_lt_of_pos _ n0), w⟩
      have w1 : (S.set 2 (.lst [.int ((st * 46649 + 5501) % 2147483629), .ref 1]))[2]? = some (.lst [.int ((st * 46649 + 5501) % 2147483629), .ref 1]) := by simp [hl]
      simp [F__law_dip, dFun_eq, b__law_dip, hc, fIx_ref h2, fLen_ref h1, CMulA, CMul, dput_r0 h2, fIx_ref w1, CDivW, n0, l53]
      rw [w.gcT (by simp)]
    · rw [List.concat_eq_append] at h1
      have w1 : (S.set 1 (.lst (ds'.map T.int ++ [.int (d / n)])))[1]? = some (.lst (ds'.map T.int ++ [.int (d / n)])) := List.getElem?_set_self (by omega)
      have w2 : (S.set 1 (.lst (ds'.map T.int ++ [.int (d / n)])))[2]? = some (.lst [.int st, .ref 1]) := by simp [h2]
      have h1' : S[1]? = some (.lst (ds'.map T.int ++ [.int d])) := by simpa using h1
      have wa : Wl S (S.set 1 (.lst (ds'.map T.int ++ [.int (d / n)]))) := ⟨by simp, ⟨st, ds' ++ [d / n], by simpa using w1, w2⟩, fun i h _ => by simp [List.getElem?_set_ne (Ne.symm h)]⟩
      have wb : Wl S ((S.set 1 (.lst (ds'.map T.int ++ [.int (d / n)]))).set 1 (.lst (ds'.map T.int))) := ⟨by simp, ⟨st, ds', List.getElem?_set_self (by simp; omega), by simp [h2]⟩, fun i h _ => by simp [List.getElem?_set_ne (Ne.symm h)]⟩
      have lg : n.natAbs.log2 < 9000 := by
        exact Nat.lt_of_lt_of_le (PySem.Flt.log2_lt_of (k := 60) (by omega) (by omega)) (by omega)
      have e := Int.emod_nonneg d (b := n) (by omega)
      have e2 := Int.emod_lt_of_pos d n0
      by_cases hz : d / n = 0
      · rw [hz] at w1 w2 wb
        rw [List.set_set] at wb
        refine ⟨d % n, _, ?_, e, .inl e2, wb⟩
        simp [F__law_dip, dFun_eq, b__law_dip, hc, fIx_ref h2, fLen_ref h1', fIx_ref h1', n0, CDivW, lg, dput_rm1 h1', fIx_ref w1, fIx_ref w2, hz, mTy_ref w1, fPop_ref w1 (t := .int 0) (by simp)]
        rw [wb.gcT (by simp)]
      · refine ⟨d % n, _, ?_, e, .inl e2, wa⟩
        simp [F__law_dip, dFun_eq, b__law_dip, hc, fIx_ref h2, fLen_ref h1', fIx_ref h1', n0, CDivW, lg, dput_rm1 h1', fIx_ref w1, fIx_ref w2, hz]
        rw [wa.gcT (by simp)]

/-! ### more objects behind -/
theorem Well.app {S : Sto} (h : Well S) (X : Sto) : Well (S ++ X) := by
  obtain ⟨st, ds, h1, h2⟩ := h
  have l1 := (List.getElem?_eq_some_iff.mp h1).1
  have l2 := (List.getElem?_eq_some_iff.mp h2).1
  exact ⟨st, ds, by rw [List.getElem?_append_left l1]; exact h1, by rw [List.getElem?_append_left l2]; exact h2⟩
theorem Wl.split {S X S2 : Sto} (w : Well S) (h : Wl (S ++ X) S2) : ∃ S1, S2 = S1 ++ X ∧ Wl S S1 := by
  obtain ⟨st, ds, h1, h2⟩ := w
  have l2 := (List.getElem?_eq_some_iff.mp h2).1
  obtain ⟨hl, ⟨st', ds', w1, w2⟩, ho⟩ := h
  rw [List.length_append] at hl
  have e : S2 = S2.take S.length ++ X := by
    apply List.ext_getElem?
    intro i
    by_cases hi : i < S.length
    · rw [List.getElem?_append_left (by rw [List.length_take]; omega), List.getElem?_take_of_lt hi]
    · rw [ho i (by omega) (by omega), List.getElem?_append_right (by omega), List.getElem?_append_right (by rw [List.length_take]; omega), List.length_take, Nat.min_eq_left (by omega)]
  refine ⟨S2.take S.length, e, ⟨by rw [List.length_take]; omega, ⟨st', ds', by rw [List.getElem?_take_of_lt (by omega)]; exact w1, by rw [List.getElem?_take_of_lt (by omega)]; exact w2⟩, fun i h1 h2 => ?_⟩⟩
  by_cases hi : i < S.length
  · rw [List.getElem?_take_of_lt hi, ho i h1 h2, List.getElem?_append_left hi]
  · rw [List.getElem?_eq_none (by rw [List.length_take]; omega), List.getElem?_eq_none (by omega)]
/-- a look into the well, objects behind it -/
theorem dip_app {S : Sto} (hw : Well S) (X : Sto) {n : Int} (hn : n < 2 ^ 60) : ∃ told S1, F__law_dip [.ref 2, .int n] (S ++ X) = .ok (.int told) (S1 ++ X) ∧ 0 ≤ told ∧ (told < n ∨ told = 0 ∧ n < 2) ∧ Wl S S1 := by
  obtain ⟨told, S2, h1, h2, h3, h4⟩ := dip_ok (hw.app X) hn
  obtain ⟨S1, rfl, h5⟩ := h4.split hw
  exact ⟨told, S1, h1, h2, h3, h5⟩
theorem dip_nat {S : Sto} (hw : Well S) (X : Sto) {n : Nat} (hn : n < 2 ^ 60) (h0 : 0 < n) : ∃ (told : Nat) (S1 : Sto), F__law_dip [.ref 2, .int n] (S ++ X) = .ok (.int told) (S1 ++ X) ∧ told < n ∧ Wl S S1 := by
  obtain ⟨told, S1, h1, h2, h3, h4⟩ := dip_app hw X (n := (n : Int)) (by omega)
  obtain ⟨k, rfl⟩ := Int.eq_ofNat_of_zero_le h2
  exact ⟨k, S1, h1, by omega, h4⟩
theorem dip0 {S : Sto} (hw : Well S) {n : Nat} (hn : n < 2 ^ 60) (h0 : 0 < n) : ∃ (told : Nat) (S1 : Sto), F__law_dip [.ref 2, .int n] S = .ok (.int told) S1 ∧ told < n ∧ Wl S S1 := by
  have := dip_nat hw [] hn h0
  simpa using this
theorem fPopAt_ref {S : Sto} {k j : Nat} {ts : List T} (h : S[k]? = some (.lst ts)) (hj : j < ts.length) (hb : ts.length ≤ 2 ^ 60) : fPopAt (.ref k) [.int j] S = .ok ts[j] (S.set k (.lst (ts.eraseIdx j))) := by
  unfold fPopAt
  have e : seqIndex? (j : Int) ts.length = some j := by
    have h0 : ¬ ((j : Int) < 0) := by omega
    unfold seqIndex?
    simp [h0, hj]
  simp only [h, e, List.getElem?_eq_getElem hj]
  rw [if_pos (by omega)]
theorem gcT_refw {S S' : Sto} {k : Nat} {ts : List T} (c : CutOk S S') (hk : S.length ≤ k) (h : S'[k]? = some (.lst ts)) (h2 : T.lts S.length ts = true) : gcT S (.ref k) S' = .ok (.nlst ts) (S'.take S.length) := by
  unfold Dn.gcT
  rw [if_pos c, if_neg (by rw [T.lt]; simp; omega)]
  simp only [h]
  rw [if_pos h2]
theorem Wl.cutA {S S1 : Sto} (h : Wl S S1) (X : Sto) : CutOk S (S1 ++ X) := by
  obtain ⟨c1, c2⟩ := h.cut
  refine ⟨by simp; omega, fun i hi o ho => ?_⟩
  rw [List.getElem?_append_left (by have := h.len; omega)] at ho
  exact c2 i hi o ho
theorem Wl.takeA {S S1 : Sto} (h : Wl S S1) (X : Sto) : (S1 ++ X).take S.length = S1 := by rw [← h.len]; simp
theorem Wl.gcA {S S1 : Sto} (h : Wl S S1) (X : Sto) {t : T} (ht : t.lt S.length = true) : Dn.gcT S t (S1 ++ X) = .ok t S1 := by rw [gcT_cut (h.cutA X) ht, h.takeA]
section
variable {S : Sto} {a b o : MO}
@[simp] theorem two_g0 : (S ++ [a, b])[S.length]? = some a := by simp
@[simp] theorem two_g1 : (S ++ [a, b])[S.length + 1]? = some b := by simp
@[simp] theorem two_s0 : List.set (S ++ [a, b]) S.length o = S ++ [o, b] := by simp
@[simp] theorem two_s1 : List.set (S ++ [a, b]) (S.length + 1) o = S ++ [a, o] := by simp
end
theorem stirred_ok {S : Sto} (hw : Well S) {ts : List T} (hl : ts.length ≤ 100000) (hp : T.lts 0 ts = true) (hfz : ∀ t ∈ ts, fz t = t) : ∃ told S', F__law_stirred [.ref 2, .lst ts] S = .ok (.nlst told) S' ∧ told.Perm ts ∧ Wl S S' := by
  let sh := [some (T.ref 2), some (T.lst ts), some (T.ref S.length), some (T.ref (S.length + 1))]
  have hstep := while_inv (c := dTest (dBin fGT (dCall fLen (dCons (dVar 2) dNil)) (dC (.int 0)))) (b := L__law_stirred_0)
    (fun m sl S' => ∃ rest told S1, S' = S1 ++ [.lst rest, .lst told] ∧ Wl S S1 ∧ (rest ++ told).Perm ts ∧ m = rest.length ∧ sl = sh) (fun sl S' => ∃ told S1, S' = S1 ++ [.lst [], .lst told] ∧ Wl S S1 ∧ told.Perm ts ∧ sl = sh) (by
    rintro m sl S' ⟨rest, told, S1, rfl, w1, hperm, rfl, rfl⟩
    have el : S1.length = S.length := w1.len
    have g0 : (S1 ++ [.lst rest, .lst told])[S.length]? = some (.lst rest) := by rw [← el]; exact two_g0
    have hlen := hperm.length_eq
    rw [List.length_append] at hlen
    cases hr : rest with
    | nil =>
      subst hr
      refine .inr ⟨_, ?_, told, S1, rfl, w1, by simpa using hperm, rfl⟩
      simp [sh, fLen_ref g0]
    | cons r0 rs =>
      rw [← hr]
      have hpos : 0 < rest.length := by rw [hr]; simp
      left
      obtain ⟨k, S2, d1, d2, d3⟩ := dip_nat w1.w [.lst rest, .lst told] (n := rest.length) (by omega) hpos
      have w2 := w1.trans d3
      have el2 : S2.length = S.length := w2.len
      have g2 : (S2 ++ [.lst rest, .lst told])[S.length]? = some (.lst rest) := by rw [← el2]; exact two_g0
      have s2 : List.set (S2 ++ [.lst rest, .lst told]) S.length (.lst (rest.eraseIdx k)) = S2 ++ [.lst (rest.eraseIdx k), .lst told] := by rw [← el2]; exact two_s0
      have g3 : (S2 ++ [.lst (rest.eraseIdx k), .lst told])[S.length + 1]? = some (.lst told) := by rw [← el2]; exact two_g1
      have s3 : List.set (S2 ++ [.lst (rest.eraseIdx k), .lst told]) (S.length + 1) (.lst (told ++ [rest[k]])) = S2 ++ [.lst (rest.eraseIdx k), .lst (told ++ [rest[k]])] := by rw [← el2]; exact two_s1
      have g4 : (S1 ++ [.lst rest, .lst told])[S.length + 1]? = some (.lst told) := by rw [← el]; exact two_g1
      have hz : fz rest[k] = rest[k] := hfz _ (hperm.subset (List.mem_append_left _ (List.getElem_mem d2)))
      have hc : told.length < 16777216 := by omega
      have e0 : dTest (dBin fGT (dCall fLen (dCons (dVar 2) dNil)) (dC (.int 0))) sh (S1 ++ [.lst rest, .lst told]) = .ok true (S1 ++ [.lst rest, .lst told]) := by
        simp [sh, fLen_ref g0, hpos]
      refine ⟨S1 ++ [.lst rest, .lst told], rest.length - 1, sh, S2 ++ [.lst (rest.eraseIdx k), .lst (told ++ [rest[k]])], e0, by omega, .inl ?_, rest.eraseIdx k, told ++ [rest[k]], S2, rfl, w2, ?_, by rw [List.length_eraseIdx_of_lt d2], rfl⟩
      · simp [L__law_stirred_0, sh, mTy_ref g0, mTy_ref g4, fLen_ref g0, d1, fPopAt_ref g2 d2 (by omega), s2, hz, fAppend_ref g3, hc, s3]
      · refine List.Perm.trans ?_ hperm
        have e1 : rest.eraseIdx k = rest.take k ++ rest.drop (k + 1) := List.eraseIdx_eq_take_drop_succ ..
        have e2 : rest = rest.take k ++ rest[k] :: rest.drop (k + 1) := by rw [← List.drop_eq_getElem_cons d2, List.take_append_drop]
        generalize rest[k] = x at e2
        rw [e1]
        generalize rest.take k = p at e2
        generalize rest.drop (k + 1) = q at e2
        subst e2
        rw [List.append_assoc, List.append_assoc, List.cons_append]
        refine List.Perm.append_left _ ?_
        rw [← List.append_assoc]
        exact List.perm_append_singleton _ _)
  obtain ⟨sl', S', q1, told, S1, rfl, w1, hperm, rfl⟩ := hstep FUEL ts.length sh (S ++ [.lst ts, .lst []]) ⟨ts, [], S, rfl, .refl hw, by simp, rfl, rfl⟩ (by unfold FUEL; omega)
  refine ⟨told, S1, ?_, hperm, w1⟩
  have g1 : (S1 ++ [.lst [], .lst told])[S.length + 1]? = some (.lst told) := by rw [← w1.len]; exact two_g1
  have hpt : T.lts S.length told = true := by
    rw [T.lts_all, List.all_eq_true]
    intro t ht
    have := hperm.subset ht
    rw [T.lts_all, List.all_eq_true] at hp
    exact T.lt_mono (Nat.zero_le _) (hp t this)
  simp only [sh] at q1
  simp [F__law_stirred, dFun_eq, b__law_stirred]
  rw [dWhile_eq, q1]
  simp
  rw [gcT_refw (w1.cutA _) (by omega) g1 hpt, w1.takeA]
end Bd

/-! the chest: whatever is pulled is within its bound -/
namespace Bd
open PySem PySem.Spec L2 Dn Pk
def Cw (S : Sto) : Prop := ∃ (m : Int) (ds : List Int), ds.length ≤ 1000 ∧ S[0]? = some (.lst (ds.map T.int)) ∧ S[1]? = some (.lst [.ref 0, .int m])
structure Ch (S S' : Sto) : Prop where
  len : S'.length = S.length
  w : Cw S'
  out : ∀ i : Nat, i ≠ 0 → i ≠ 1 → S'[i]? = S[i]?
theorem Ch.cut {S S' : Sto} (h : Ch S S') : CutOk S S' := by
  obtain ⟨h1, ⟨m, ds, _, w1, w2⟩, h2⟩ := h
  have hl : 1 < S'.length := (List.getElem?_eq_some_iff.mp w2).1
  refine ⟨by omega, fun i hi o ho => ?_⟩
  by_cases e1 : i = 0
  · subst e1
    rw [w1] at ho; cases ho
    exact .inr (ltsI _ _)
  · by_cases e2 : i = 1
    · subst e2
      rw [w2] at ho; cases ho
      refine .inr ?_
      simp [MO.lt, T.lts, T.lt]
      omega
    · exact .inl (by rw [← h2 i e1 e2]; exact ho)
theorem Ch.refl {S : Sto} (h : Cw S) : Ch S S := ⟨rfl, h, fun _ _ _ => rfl⟩
theorem Ch.trans {S S1 S2 : Sto} (a : Ch S S1) (b : Ch S1 S2) : Ch S S2 := ⟨b.len.trans a.len, b.w, fun i h1 h2 => (b.out i h1 h2).trans (a.out i h1 h2)⟩
theorem Ch.take {S S' : Sto} (h : Ch S S') : S'.take S.length = S' := by rw [← h.len]; simp
theorem Ch.gcT {S S' : Sto} (h : Ch S S') {t : T} (ht : t.lt S.length = true) : Dn.gcT S t S' = .ok t S' := by rw [gcT_cut h.cut ht, h.take]
theorem l101 : Nat.log2 101 < 9000 := by decide +kernel
theorem pull_ok {S : Sto} (hw : Cw S) {n : Int} (hn : n < 2 ^ 60) : ∃ told S', F__law_pull [.ref 1, .int n] S = .ok (.int told) S' ∧ 0 ≤ told ∧ (told < n ∨ told = 0 ∧ n < 2) ∧ Ch S S' := by
  have hw0 := hw
  obtain ⟨m, ds, hsz, h1, h2⟩ := hw
  have hl : 1 < S.length := (List.getElem?_eq_some_iff.mp h2).1
  by_cases hc : n < 2
  · refine ⟨0, S, ?_, Int.le_refl _, .inr ⟨rfl, hc⟩, .refl hw0⟩
    simp [F__law_pull, dFun_eq, b__law_pull, hc]
    rw [gcT_same (by simp)]
  · have n0 : 0 < n := by omega
    have lg : n.natAbs.log2 < 9000 := Nat.lt_of_lt_of_le (PySem.Flt.log2_lt_of (k := 60) (by omega) (by omega)) (by omega)
    rcases List.eq_nil_or_concat ds with rfl | ⟨ds', d, rfl⟩
    · have w : Ch S (S.set 1 (.lst [.ref 0, .int ((m * 39373 + 8209) % 2147483423)])) := ⟨by simp, ⟨_, [], by simp, by simp [h1], by simp [hl]; rfl⟩, fun i _ h => by simp [List.getElem?_set_ne (Ne.symm h)]⟩
      refine ⟨(((m * 39373 + 8209) % 2147483423) / 101) % n, _, ?_, Int.emod_nonneg _ (by omega), .inl (Int.emod_lt_of_pos _ n0), w⟩
      have w1 : (S.set 1 (.lst [.ref 0, .int ((m * 39373 + 8209) % 2147483423)]))[1]? = some (.lst [.ref 0, .int ((m * 39373 + 8209) % 2147483423)]) := by simp [hl]
      have p1 : dput S (.ref 1) (.int 1) (.int ((m * 39373 + 8209) % 2147483423)) = some (S.set 1 (.lst [.ref 0, .int ((m * 39373 + 8209) % 2147483423)])) := dput_ref h2 (ixN_nat (m := 1) (by simp))
      simp [F__law_pull, dFun_eq, b__law_pull, hc, fIx_ref h2, fLen_ref h1, CMulA, CMul, p1, fIx_ref w1, CDivW, n0, l101]
      rw [w.gcT (by simp)]
    · rw [List.concat_eq_append] at h1 hsz
      have hsz2 : ds'.length < 1000 := by simp at hsz; omega
      have h1' : S[0]? = some (.lst (ds'.map T.int ++ [.int d])) := by simpa using h1
      have w1 : (S.set 0 (.lst (ds'.map T.int)))[0]? = some (.lst (ds'.map T.int)) := List.getElem?_set_self (by omega)
      have w2 : (S.set 0 (.lst (ds'.map T.int)))[1]? = some (.lst [.ref 0, .int m]) := by simp [h2]
      have e := Int.emod_nonneg d (b := n) (by omega)
      have e2 := Int.emod_lt_of_pos d n0
      have wa : Ch S (S.set 0 (.lst (ds'.map T.int))) := ⟨by simp, ⟨m, ds', by omega, w1, w2⟩, fun i h _ => by simp [List.getElem?_set_ne (Ne.symm h)]⟩
      by_cases hz : d < n
      · refine ⟨d % n, _, ?_, e, .inl e2, wa⟩
        have hz2 : ¬ n ≤ d := by omega
        simp [F__law_pull, dFun_eq, b__law_pull, hc, fIx_ref h2, fLen_ref h1', mTy_ref h1', fPop_ref h1' (t := .int d) (by simp), n0, hz2, hz]
        rw [wa.gcT (by simp)]
      · have hz2 : n ≤ d := by omega
        have hb : ds'.length < 16777216 := by omega
        · have w3 : Ch S (S.set 0 (.lst (ds'.map T.int ++ [.int (d / n)]))) := ⟨by simp, ⟨m, ds' ++ [d / n], by simp; omega, by simp [show 0 < S.length by omega], by simp [h2]⟩, fun i h _ => by simp [List.getElem?_set_ne (Ne.symm h)]⟩
          refine ⟨d % n, _, ?_, e, .inl e2, w3⟩
          simp [F__law_pull, dFun_eq, b__law_pull, hc, fIx_ref h2, fIx_ref w2, fLen_ref h1', mTy_ref h1', mTy_ref w1, fPop_ref h1' (t := .int d) (by simp), n0, hz2, hz, CDivW, lg, fAppend_ref w1, hb]
          rw [w3.gcT (by simp)]

theorem Cw.app {S : Sto} (h : Cw S) (X : Sto) : Cw (S ++ X) := by
  obtain ⟨m, ds, h0, h1, h2⟩ := h
  have l1 := (List.getElem?_eq_some_iff.mp h1).1
  have l2 := (List.getElem?_eq_some_iff.mp h2).1
  exact ⟨m, ds, h0, by rw [List.getElem?_append_left l1]; exact h1, by rw [List.getElem?_append_left l2]; exact h2⟩
theorem Ch.split {S X S2 : Sto} (w : Cw S) (h : Ch (S ++ X) S2) : ∃ S1, S2 = S1 ++ X ∧ Ch S S1 := by
  obtain ⟨m, ds, h0, h1, h2⟩ := w
  have l2 := (List.getElem?_eq_some_iff.mp h2).1
  obtain ⟨hl, ⟨m', ds', w0, w1, w2⟩, ho⟩ := h
  rw [List.length_append] at hl
  have e : S2 = S2.take S.length ++ X := by
    apply List.ext_getElem?
    intro i
    by_cases hi : i < S.length
    · rw [List.getElem?_append_left (by rw [List.length_take]; omega), List.getElem?_take_of_lt hi]
    · rw [ho i (by omega) (by omega), List.getElem?_append_right (by omega), List.getElem?_append_right (by rw [List.length_take]; omega), List.length_take, Nat.min_eq_left (by omega)]
  refine ⟨S2.take S.length, e, ⟨by rw [List.length_take]; omega, ⟨m', ds', w0, by rw [List.getElem?_take_of_lt (by omega)]; exact w1, by rw [List.getElem?_take_of_lt (by omega)]; exact w2⟩, fun i h1 h2 => ?_⟩⟩
  by_cases hi : i < S.length
  · rw [List.getElem?_take_of_lt hi, ho i h1 h2, List.getElem?_append_left hi]
  · rw [List.getElem?_eq_none (by rw [List.length_take]; omega), List.getElem?_eq_none (by omega)]
theorem pull_nat {S : Sto} (hw : Cw S) (X : Sto) (n : Nat) (h0 : 0 < n) (hn : n < 2 ^ 60) : ∃ (told : Nat) (S1 : Sto), F__law_pull [.ref 1, .int n] (S ++ X) = .ok (.int told) (S1 ++ X) ∧ told < n ∧ Ch S S1 := by
  obtain ⟨told, S2, h1, h2, h3, h4⟩ := pull_ok (hw.app X) (n := (n : Int)) (by omega)
  obtain ⟨S1, rfl, h5⟩ := h4.split hw
  obtain ⟨k, rfl⟩ := Int.eq_ofNat_of_zero_le h2
  exact ⟨k, S1, h1, by omega, h5⟩
theorem pull0 {S : Sto} (hw : Cw S) (n : Nat) (h0 : 0 < n) (hn : n < 2 ^ 60) : ∃ (told : Nat) (S1 : Sto), F__law_pull [.ref 1, .int n] S = .ok (.int told) S1 ∧ told < n ∧ Ch S S1 := by
  have := pull_nat hw [] n h0 hn
  simpa using this
theorem Ch.cutA {S S1 : Sto} (h : Ch S S1) (X : Sto) : CutOk S (S1 ++ X) := by
  obtain ⟨c1, c2⟩ := h.cut
  refine ⟨by simp; omega, fun i hi o ho => ?_⟩
  rw [List.getElem?_append_left (by have := h.len; omega)] at ho
  exact c2 i hi o ho
theorem Ch.takeA {S S1 : Sto} (h : Ch S S1) (X : Sto) : (S1 ++ X).take S.length = S1 := by rw [← h.len]; simp
theorem Ch.gcA {S S1 : Sto} (h : Ch S S1) (X : Sto) {t : T} (ht : t.lt S.length = true) : Dn.gcT S t (S1 ++ X) = .ok t S1 := by rw [gcT_cut (h.cutA X) ht, h.takeA]
theorem MO_lt_mono {m n : Nat} (h : m ≤ n) {o : MO} (q : o.lt m = true) : o.lt n = true := by
  cases o with
  | lst ts => exact T.lts_mono h q
  | dK ts => exact List.all_eq_true.mpr fun p hp => T.lt_mono h (List.all_eq_true.mp q p hp)
  | dT ts => exact List.all_eq_true.mpr fun p hp => T.lt_mono h (List.all_eq_true.mp q p hp)
  | ins c fs => exact List.all_eq_true.mpr fun p hp => T.lt_mono h (List.all_eq_true.mp q p hp)
/-- one of a row -/
theorem from_tup {S : Sto} (hw : Cw S) (X : Sto) (ts : List T) (h0 : 0 < ts.length) (hn : ts.length ≤ 1000) (hl : T.lts 0 ts = true) : ∃ (i : Nat) (t : T) (S1 : Sto), F__law_from [.ref 1, .tup ts] (S ++ X) = .ok t (S1 ++ X) ∧ ts[i]? = some t ∧ Ch S S1 := by
  obtain ⟨i, S1, e1, e2, w⟩ := pull_nat hw X ts.length h0 (by omega)
  refine ⟨i, ts[i], S1, ?_, List.getElem?_eq_getElem e2, w⟩
  simp [F__law_from, dFun_eq, b__law_from, e1, atI_n, List.getElem?_eq_getElem e2]
  have hlt : ts[i].lt (S ++ X).length = true := by
    rw [T.lts_all, List.all_eq_true] at hl
    exact T.lt_mono (Nat.zero_le _) (hl _ (List.getElem_mem e2))
  have hc : CutOk (S ++ X) (S1 ++ X) := by
    obtain ⟨c1, c2⟩ := w.cut
    refine ⟨by simp; omega, fun j hj o ho => ?_⟩
    by_cases h : j < S.length
    · rw [List.getElem?_append_left (by have := w.len; omega)] at ho
      rw [List.getElem?_append_left h]
      rcases c2 j h o ho with q | q
      · exact .inl q
      · exact .inr (by exact MO_lt_mono (by simp) q)
    · have := w.len
      rw [List.getElem?_append_right (by omega)] at ho
      rw [List.getElem?_append_right (by omega)]
      exact .inl (by rw [show j - S.length = j - S1.length by omega]; exact ho)
  rw [gcT_cut hc (by simpa using hlt)]
  rw [show (S ++ X).length = (S1 ++ X).length by simp [w.len], List.take_length]
end Bd

/-! _law_same (the second one) of a thing with itself; the chest at the start -/
namespace Bd
open PySem PySem.Spec L2 Dn Pk
theorem law_whole_int {i : Int} {S : Sto} : F__law_whole [.int i] S = .ok (.bl true) S := by
  simp [F__law_whole, dFun_eq, b__law_whole, isaB]
  rw [gcT_same (by simp)]
theorem same_ok {t : T} {S : Sto} (h : Dt t = true) (hs : sz t ≤ 1000000) : F__law_same_v1 [t, t] S = .ok (.bl true) S := by
  let sh := fun (a b c : Option T) => [some t, some t, some (T.ref S.length), a, b, c]
  have hfz : ∀ u, Dt u = true → fz u = u := fun u hu => by cases u <;> first | rfl | simp [Dt] at hu
  let pr := fun u : T => T.tup [u, u]
  simp only [F__law_same_v1, dFun_eq (np := 2) (n := 6) (ts := [t, t]) rfl, b__law_same_v1]
  simp [hfz t h]
  have hstep := while_inv (c := dTest (dBin fGT (dCall fLen (dCons (dVar 2) dNil)) (dC (.int 0)))) (b := L__law_same_v1_1)
    (fun m sl S' => ∃ st : List T, (∀ u ∈ st, Dt u = true) ∧ m = szs st ∧ m ≤ 1000000 ∧ S' = S ++ [.lst (st.map pr)] ∧ ∃ a b c, sl = sh a b c) (fun sl S' => S' = S ++ [.lst []]) (by
    rintro m sl S' ⟨st, hD, rfl, hm, rfl, a, b, c, rfl⟩
    rcases List.eq_nil_or_concat st with rfl | ⟨st', u, rfl⟩
    · refine .inr ⟨S ++ [.lst []], ?_, rfl⟩
      simp [sh]
    · left
      rw [List.concat_eq_append] at hD hm ⊢
      have hu : Dt u = true := hD u (by simp)
      have hD' : ∀ v ∈ st', Dt v = true := fun v hv => hD v (by simp [hv])
      have ez : szs (st' ++ [u]) = szs st' + sz u := by simp [szs_sum]
      have hp := sz_pos u
      have ls := len_szs st'
      rw [ez] at hm ⊢
      refine ⟨S ++ [.lst (st'.map pr ++ [pr u])], ?_⟩
      have e0 : dTest (dBin fGT (dCall fLen (dCons (dVar 2) dNil)) (dC (.int 0))) (sh a b c) (S ++ [.lst ((st' ++ [u]).map pr)]) = .ok true (S ++ [.lst (st'.map pr ++ [pr u])]) := by
        simp [sh]
      have hfu := hfz u hu
      have simple : srt u < 4 → ∃ m' sl2 S2, m' < szs st' + sz u ∧ (L__law_same_v1_1 (sh a b c) (S ++ [.lst (st'.map pr ++ [pr u])]) = .nx sl2 S2 ∨ L__law_same_v1_1 (sh a b c) (S ++ [.lst (st'.map pr ++ [pr u])]) = .ct sl2 S2) ∧ ∃ st : List T, (∀ u ∈ st, Dt u = true) ∧ m' = szs st ∧ m' ≤ 1000000 ∧ S2 = S ++ [.lst (st.map pr)] ∧ ∃ a b c, sl2 = sh a b c := by
        intro h4
        refine ⟨szs st', sh (some u) (some u) c, S ++ [.lst (st'.map pr)], by omega, .inl ?_, st', hD', rfl, by omega, rfl, _, _, _, rfl⟩
        have es := eq_self_ok (S := S ++ [.lst (st'.map pr)]) hu h4
        cases u with
        | non => simp [L__law_same_v1_1, sh, pr]; try rfl
        | bl q => simp [L__law_same_v1_1, sh, pr, isaB]; try rfl
        | int q => simp [L__law_same_v1_1, sh, pr, isaB, law_whole_int]; try rfl
        | str q => simp [L__law_same_v1_1, sh, pr, isaB]; try rfl
        | tup us => simp [srt] at h4
        | _ => simp [Dt] at hu
      by_cases h4 : srt u < 4
      · obtain ⟨m', sl2, S2, q1, q2, q3⟩ := simple h4
        exact ⟨m', sl2, S2, e0, q1, q2, q3⟩
      · obtain ⟨us, rfl⟩ : ∃ us, u = .tup us := by
          cases u with
          | tup us => exact ⟨us, rfl⟩
          | non => simp [srt] at h4
          | bl _ => simp [srt] at h4
          | int _ => simp [srt] at h4
          | str _ => simp [srt] at h4
          | _ => simp [Dt] at hu
        have hus : ∀ v ∈ us, Dt v = true := Dts_all.mp (by simpa [Dt] using hu)
        have lu := len_szs us
        have esz : sz (.tup us) = 1 + szs us := by simp [sz]
        let fr := fun k : Nat => [pr (us[k]?.getD .non)]
        obtain ⟨sl', q1, x', rfl⟩ := for_app (S := S) (src := none) (all := (List.range us.length).map fun k => T.int (k : Nat)) (g := gN 5) (b := L__law_same_v1_0) (fun k : Nat => T.int k) fr (fun sl => ∃ x, sl = sh (some (.tup us)) (some (.tup us)) x) 1 2000000 (fun _ => trivial)
          (List.range us.length) (st'.map pr) (sh (some (.tup us)) (some (.tup us)) c) (fun _ _ => by simp [fr]) (fun k hk acc sl ⟨x, e⟩ hl => by
            subst e
            refine ⟨_, _, sh (some (.tup us)) (some (.tup us)) (some (T.int (k : Nat))), gN_eq _, .inl ?_, _, rfl⟩
            have hk' : k < us.length := by simpa using hk
            have : acc.length < 16777216 := by omega
            have hv := hfz us[k] (hus _ (List.getElem_mem hk'))
            simp [L__law_same_v1_0, sh, this, fr, pr, atI_n, List.getElem?_eq_getElem hk', hv]) (by simp; omega) ⟨c, rfl⟩
        refine ⟨szs st' + szs us, sh (some (.tup us)) (some (.tup us)) x', S ++ [.lst ((st' ++ us).map pr)], e0, by rw [esz]; omega, .inl ?_, st' ++ us, fun v hv => (List.mem_append.mp hv).elim (hD' v) (hus v), by simp [szs_sum], by rw [esz] at hm; omega, rfl, _, _, _, rfl⟩
        have e1 : (List.range us.length).flatMap fr = us.map pr := by
          rw [← List.map_eq_flatMap (f := fun k : Nat => pr (us[k]?.getD .non))]
          apply List.ext_getElem?
          intro k
          by_cases hk : k < us.length
          · rw [List.getElem?_map, List.getElem?_range hk, List.getElem?_map, List.getElem?_eq_getElem hk]
            simp [List.getElem?_eq_getElem hk]
          · rw [List.getElem?_eq_none (by simp; omega), List.getElem?_eq_none (by simp; omega)]
        rw [e1, ← List.map_append] at q1
        have hr : dRng1 (dCons (dCall fLen (dCons (dVar 4) dNil)) dNil) (sh (some (.tup us)) (some (.tup us)) c) (S ++ [.lst (st'.map pr)]) = .ok none ((List.range us.length).map fun k => T.int (k : Nat)) (S ++ [.lst (st'.map pr)]) := dRng1_eq (n := us.length) (by simp [sh]) (by omega)
        have hf := dFor_eq (dRng1 (dCons (dCall fLen (dCons (dVar 4) dNil)) dNil)) (gN 5) L__law_same_v1_0 _ _ hr
        simp only [sh] at q1 hf
        simp [L__law_same_v1_1, sh, pr, isaB]
        simp only [pr] at q1 hf
        rw [hf, q1]
        simp)
  obtain ⟨sl', S', q1, rfl⟩ := hstep FUEL (sz t) (sh none none none) (S ++ [.lst [pr t]]) ⟨[t], by simpa using h, by simp [szs], hs, rfl, _, _, _, rfl⟩ (by unfold FUEL; omega)
  simp only [sh, pr] at q1
  rw [dWhile_eq, q1]
  simp
  rw [gcT_app (by simp)]
theorem gcT_keep {S : Sto} {ts : List T} (h : T.lts 0 ts = false) : Dn.gcT [] (.nlst ts) S = .ok (.nlst ts) S := by
  unfold Dn.gcT
  rw [if_pos ⟨Nat.zero_le _, fun i hi => by simp at hi⟩, if_neg (by simp [h])]
theorem chest_ok {ns : List Int} (hl : ns.length ≤ 63) : ∃ (m : Int) (ds : List Int), ds.length ≤ 1000 ∧ F__law_chest [.flst (ns.map T.int)] [] = .ok (.nlst [.ref 0, .int m]) [.lst (ds.map T.int)] := by
  let sh := fun (m : Int) (x y : Option T) => [some (T.flst (ns.map T.int)), some (T.int m), some (T.ref 0), x, y]
  have hcut : cutT (ns.map T.int) none (some (60 : Int)) = (ns.take 60).map T.int := by
    rw [show (60 : Int) = ((60 : Nat) : Int) from rfl, cutT_to, List.map_take]
  obtain ⟨sl', S', q1, m, ds, x', y', rfl, rfl, hds⟩ := forL_inv (src := none) (all := (ns.take 60).map T.int) (g := gN 3) (b := L__law_chest_0) T.int
    (fun xs sl S => ∃ (m : Int) (ds : List Int) (x y : Option T), sl = sh m x y ∧ S = [.lst (ds.map T.int)] ∧ ds.length + xs.length ≤ 100) (fun _ _ _ _ => trivial) (by
      rintro i xs sl S ⟨m, ds, x, y, rfl, rfl, hlen⟩
      rw [List.length_cons] at hlen
      have p1 : CPow 10 18 := by simp [CPow]
      have p2 : CPow 10 60 := by simp [CPow]
      have p3 : CPowW 1000000000000000000000000000000000000000000000000000000000000 9 := ⟨by decide, by decide, by decide +kernel⟩
      have g0 : ([MO.lst (ds.map T.int)] : Sto)[0]? = some (.lst (ds.map T.int)) := rfl
      have m1 : CMulA m 69621 := .inl (.inr (by omega))
      have m2 : CMulA 2 i := .inl (.inl (by omega))
      have hz : ds.length < 16777216 := by omega
      have big : (0 : Int) < (10 ^ 60) ^ 9 := by decide +kernel
      simp only [Int.reducePow] at big
      obtain ⟨a, ha⟩ : ∃ a, (if 0 ≤ i then 2 * i else 1 - 2 * i) = a := ⟨_, rfl⟩
      have hd4 : (dIfE (dTest (dBin fGE (dVar 3) (dC (.int 0)))) (dBin fMul (dC (.int 2)) (dCall fInt1 (dCons (dVar 3) dNil))) (dBin (fInt (fun _ _ => True) (· - ·)) (dC (.int 1)) (dBin fMul (dC (.int 2)) (dCall fInt1 (dCons (dVar 3) dNil))))) [some (T.flst (ns.map T.int)), some (T.int m), some (T.ref 0), some (.int i), y] [.lst (ds.map T.int)] = .ok (.int a) [.lst (ds.map T.int)] := by
        rw [← ha]
        by_cases h0 : 0 ≤ i
        · simp [h0, m2]
        · simp [h0, m2]
      by_cases hb : (1000000000000000000 : Int) ≤ a
      · refine ⟨_, _, sh ((m * 69621 + a % 2147483423 + 73) % 2147483423) (some (.int i)) (some (.int a)), [.lst ((ds ++ [a % (10 ^ 60) ^ 9]).map T.int)], gN_eq _, .inl ?_, _, ds ++ [a % (10 ^ 60) ^ 9], _, _, rfl, rfl, by simp; omega⟩
        unfold L__law_chest_0
        rw [dSeq_eq, dSet_eq]
        simp only [sh, List.set_cons_succ, List.set_cons_zero]
        rw [hd4]
        simp [m1, p1, p2, p3, hb, mTy_ref g0, fAppend_ref g0, hz, big]
      · refine ⟨_, _, sh ((m * 69621 + a % 2147483423 + 73) % 2147483423) (some (.int i)) (some (.int a)), [.lst (ds.map T.int)], gN_eq _, .inl ?_, _, ds, _, _, rfl, rfl, by omega⟩
        unfold L__law_chest_0
        rw [dSeq_eq, dSet_eq]
        simp only [sh, List.set_cons_succ, List.set_cons_zero]
        rw [hd4]
        simp [m1, p1, hb])
    (ns.take 60) (sh 12119 none none) [.lst []] ⟨12119, [], none, none, rfl, rfl, by simp; omega⟩
  refine ⟨m, ds, by simp at hds; omega, ?_⟩
  have hsl : ∀ S, fSl (.flst (ns.map T.int)) none (some 60) S = .ok (.nlst ((ns.take 60).map T.int)) S := fun S => by
    rw [← hcut]; rfl
  simp only [sh] at q1
  simp only [F__law_chest, dFun_eq (np := 1) (n := 5) (ts := [.flst (ns.map T.int)]) rfl, b__law_chest]
  simp
  rw [dFor_eq _ _ _ _ _ (dIt_eq (t := .nlst ((ns.take 60).map T.int)) (src := none) (ts := (ns.take 60).map T.int) (by simp only [dSl_eq, dVar_eq, List.getElem?_cons_zero, varR_some, RE.bind_ok, dNoPart_eq, dPart_eq, dC_eq, RE.part_int, RO.bindE_ok, fz_flst, hsl]; rfl) rfl), q1]
  simp
  rw [gcT_keep (by simp [T.lt])]
end Bd

/-! the boards that the law draws (out of the chest) -/
namespace Bd
open PySem PySem.Spec L2 Dn Pk
def KS : List Str := ["", "d", "ds", "dsu", "du", "s", "su", "u"]
/-- a board of kinds -/
structure KB (b : Brd) (r c : Nat) : Prop where
  wb : WB b
  len : b.length = r
  wid : wd b = c
  ks : ∀ q ∈ b, ∀ k ∈ q, k ∈ KS
/-- some cell is no wall -/
def Some1 (b : Brd) : Prop := ∃ q ∈ b, ∃ k ∈ q, k ≠ ""
theorem kinds_ix {k : Nat} (h : k < 7) (S : Sto) : ∃ z, z ∈ KS ∧ z ≠ "" ∧ fIx (.tup (KS.map T.str)) (.int (1 + (k : Int))) S = .ok (.str z) S := by
  have e : (1 + (k : Int)) = ((1 + k : Nat) : Int) := by omega
  have hl : 1 + k < KS.length := by show 1 + k < 8; omega
  have hne : ∀ i : Nat, i < 7 → KS[1 + i]? ≠ some ("" : Str) := by decide
  refine ⟨KS[1 + k], List.getElem_mem _, fun z => hne k h (by rw [List.getElem?_eq_getElem hl, z]), ?_⟩
  rw [e, fIx_tup, atI_n, List.getElem?_map, List.getElem?_eq_getElem hl]
  rfl
theorem KS_len : ∀ k ∈ KS, k.length ≤ 3 := by decide
abbrev rwO (r : List Str) : MO := .lst (r.map T.str)
abbrev tlO (n k : Nat) : MO := .lst ((List.range k).map fun i => T.ref (n + 1 + i))
section
variable {S : Sto} {n : Nat} {rs : List (List Str)} {o o' : MO} (hS : S.length = n)
include hS
theorem bx_get {ks : List Str} : (S ++ (o :: (rs.map rwO ++ [rwO ks])))[n + 1 + rs.length]? = some (rwO ks) := by
  subst hS
  rw [List.getElem?_append_right (by omega), show S.length + 1 + rs.length - S.length = rs.length + 1 by omega, List.getElem?_cons_succ, List.getElem?_append_right (by simp)]
  simp
theorem bx_set {ks ks' : List Str} : List.set (S ++ (o :: (rs.map rwO ++ [rwO ks]))) (n + 1 + rs.length) (rwO ks') = S ++ (o :: (rs.map rwO ++ [rwO ks'])) := by
  subst hS
  apply List.ext_getElem?
  intro i
  rw [List.getElem?_set]
  split
  · rename_i e
    subst e
    rw [if_pos (by simp; omega), List.getElem?_append_right (by omega), show S.length + 1 + rs.length - S.length = rs.length + 1 by omega, List.getElem?_cons_succ, List.getElem?_append_right (by simp)]
    simp
  · rename_i e
    by_cases h1 : i < S.length
    · rw [List.getElem?_append_left h1, List.getElem?_append_left h1]
    · rw [List.getElem?_append_right (by omega), List.getElem?_append_right (by omega)]
      cases hj : i - S.length with
      | zero => rfl
      | succ j =>
        rw [List.getElem?_cons_succ, List.getElem?_cons_succ]
        by_cases h2 : j < rs.length
        · rw [List.getElem?_append_left (by simpa using h2), List.getElem?_append_left (by simpa using h2)]
        · rw [List.getElem?_append_right (by simp; omega), List.getElem?_append_right (by simp; omega)]
          simp only [List.length_map]
          cases hm : j - rs.length with
          | zero => omega
          | succ m => rfl
theorem bx_tl {X : Sto} : (S ++ (o :: X))[n]? = some o := by
  subst hS
  simp
theorem bx_tls {X : Sto} : List.set (S ++ (o :: X)) n o' = S ++ (o' :: X) := by
  subst hS
  simp
end
abbrev shB (r c : Nat) (h : Nat) (most : Str) (wl : Int) (n : Nat) (a b x y : Option T) : Sl := [some (.ref 1), some (.int r), some (.int c), some (.tup (KS.map T.str)), some (.int h), some (.str most), some (.int wl), some (.ref n), a, b, x, y]
theorem lts_strs (n : Nat) (l : List Str) : T.lts n (l.map T.str) = true := ltsM fun _ _ => rfl
section
variable {r c h n : Nat} {most : Str} {wl : Int} {a b x y : Option T} {S X : Sto}
theorem cell_ok (hm : most ∈ KS) (hw : Cw S) {k : Nat} {rs : List (List Str)} {ks : List Str} (hS : S.length = n) (hk : ks.length ≤ 1000) : ∃ z y' S1, z ∈ KS ∧ Ch S S1 ∧
    L__law_board_v1_0 (shB r c h most wl n a (some (.ref (n + 1 + rs.length))) x y) (S ++ (tlO n k :: (rs.map rwO ++ [rwO ks]))) = .nx (shB r c h most wl n a (some (.ref (n + 1 + rs.length))) x y') (S1 ++ (tlO n k :: (rs.map rwO ++ [rwO (ks ++ [z])]))) := by
  generalize hX : (tlO n k :: (rs.map rwO ++ [rwO ks])) = X
  -- the first kind
  obtain ⟨i1, S1, e1, l1, w1⟩ := pull_nat hw X 7 (by omega) (by omega)
  obtain ⟨z1, m1, _, q1⟩ := kinds_ix l1 (S1 ++ X)
  replace e1 : F__law_pull [.ref 1, .int 7] (S ++ X) = .ok (.int i1) (S1 ++ X) := e1
  -- habit 1
  obtain ⟨z2, S2, m2, w2, s2⟩ : ∃ z2 S2, z2 ∈ KS ∧ Ch S S2 ∧ (dIf (dAnd (dTest (dBin (fEq false) (dVar 4) (dC (.int 1)))) (dTest (dBin fGT (dOwn 2 F__law_pull (dCons (dVar 0) (dCons (dC (.int 4)) dNil))) (dC (.int 0))))) (dSet 11 (dVar 5)) dNext) (shB r c h most wl n a (some (.ref (n + 1 + rs.length))) x (some (.str z1))) (S1 ++ X) = .nx (shB r c h most wl n a (some (.ref (n + 1 + rs.length))) x (some (.str z2))) (S2 ++ X) := by
    by_cases h1 : (h : Int) = 1
    · obtain ⟨i2, S2, e2, l2, w2⟩ := pull_nat w1.w X 4 (by omega) (by omega)
      replace e2 : F__law_pull [.ref 1, .int 4] (S1 ++ X) = .ok (.int i2) (S2 ++ X) := e2
      by_cases h2 : 0 < i2
      · exact ⟨most, S2, hm, w1.trans w2, by simp [h1, e2, h2]⟩
      · exact ⟨z1, S2, m1, w1.trans w2, by simp [h1, e2, h2]⟩
    · exact ⟨z1, S1, m1, w1, by simp [h1]⟩
  -- habit 2
  obtain ⟨z3, S3, m3, w3, s3⟩ : ∃ z3 S3, z3 ∈ KS ∧ Ch S S3 ∧ (dIf (dTest (dBin (fEq false) (dVar 4) (dC (.int 2)))) (dSet 11 (dOwn 2 F__law_from (dCons (dVar 0) (dCons (dTup (dCons (dC (.str "d")) (dCons (dC (.str "u")) (dCons (dC (.str "du")) dNil)))) dNil)))) dNext) (shB r c h most wl n a (some (.ref (n + 1 + rs.length))) x (some (.str z2))) (S2 ++ X) = .nx (shB r c h most wl n a (some (.ref (n + 1 + rs.length))) x (some (.str z3))) (S3 ++ X) := by
    by_cases h1 : (h : Int) = 2
    · obtain ⟨i3, t3, S3, e3, l3, w3⟩ := from_tup w2.w X [.str "d", .str "u", .str "du"] (by simp) (by simp) (by simp)
      have : ∃ z3 ∈ KS, t3 = .str z3 := by
        match i3, l3 with
        | 0, h => exact ⟨"d", by decide, by simpa using h.symm⟩
        | 1, h => exact ⟨"u", by decide, by simpa using h.symm⟩
        | 2, h => exact ⟨"du", by decide, by simpa using h.symm⟩
      obtain ⟨z3, m3, rfl⟩ := this
      exact ⟨z3, S3, m3, w2.trans w3, by simp [h1, e3]⟩
    · exact ⟨z2, S2, m2, w2, by simp [h1]⟩
  -- habit 3
  obtain ⟨z4, m4, s4⟩ : ∃ z4, z4 ∈ KS ∧ (dIf (dTest (dBin (fEq false) (dVar 4) (dC (.int 3)))) (dSet 11 (dC (.str "dsu"))) dNext) (shB r c h most wl n a (some (.ref (n + 1 + rs.length))) x (some (.str z3))) (S3 ++ X) = .nx (shB r c h most wl n a (some (.ref (n + 1 + rs.length))) x (some (.str z4))) (S3 ++ X) := by
    by_cases h1 : (h : Int) = 3
    · exact ⟨"dsu", by decide, by simp [h1]⟩
    · exact ⟨z3, m3, by simp [h1]⟩
  -- a wall
  obtain ⟨i5, S5, e5, l5, w5⟩ := pull_nat w3.w X 9 (by omega) (by omega)
  replace e5 : F__law_pull [.ref 1, .int 9] (S3 ++ X) = .ok (.int i5) (S5 ++ X) := e5
  have w35 := w3.trans w5
  have g3 : (S3 ++ X)[n + 1 + rs.length]? = some (rwO ks) := by rw [← hX]; exact bx_get (w3.len.trans hS)
  have g5 : (S5 ++ X)[n + 1 + rs.length]? = some (rwO ks) := by rw [← hX]; exact bx_get (w35.len.trans hS)
  have p5 : ∀ z, List.set (S5 ++ X) (n + 1 + rs.length) (MO.lst (ks.map T.str ++ [T.str z])) = S5 ++ (tlO n k :: (rs.map rwO ++ [rwO (ks ++ [z])])) := fun z => by
    rw [← hX, show MO.lst (ks.map T.str ++ [T.str z]) = rwO (ks ++ [z]) by simp]
    exact bx_set (w35.len.trans hS)
  have hz : ks.length < 16777216 := by omega
  refine ⟨if (i5 : Int) < wl then "" else z4, some (.str z4), S5, by split; decide; exact m4, w35, ?_⟩
  unfold L__law_board_v1_0
  have s1 : (dSet 11 (dBin fIx (dVar 3) (dBin fAdd (dC (.int 1)) (dOwn 2 F__law_pull (dCons (dVar 0) (dCons (dC (.int 7)) dNil)))))) (shB r c h most wl n a (some (.ref (n + 1 + rs.length))) x y) (S ++ X) = .nx (shB r c h most wl n a (some (.ref (n + 1 + rs.length))) x (some (.str z1))) (S1 ++ X) := by
    simp only [dSet_eq, dBin_eq, dVar_eq, List.getElem?_cons_zero, List.getElem?_cons_succ, varR_some, RE.bind_ok, dC_eq, dOwn_eq, dCons_eq, dNil_eq, RE.consA_ok, RA.cons_ok, RA.bind_ok, fz_ref, fz_int, fz_tup]
    simp [e1, q1]
  rw [dSeq_eq, s1, RS.seq_nx, dSeq_eq, s2, RS.seq_nx, dSeq_eq, s3, RS.seq_nx, dSeq_eq, s4, RS.seq_nx]
  by_cases hwl : (i5 : Int) < wl
  · simp [e5, hwl, mTy_ref g3, fAppend_ref g5, hz, p5]
  · simp [e5, hwl, mTy_ref g3, fAppend_ref g5, hz, p5]
end
theorem ax_get {S : Sto} {n i : Nat} {rs : List (List Str)} {o : MO} (hS : S.length = n) (hi : i < rs.length) : (S ++ (o :: rs.map rwO))[n + 1 + i]? = some (rwO rs[i]) := by
  subst hS
  rw [List.getElem?_append_right (by omega), show S.length + 1 + i - S.length = i + 1 by omega, List.getElem?_cons_succ, List.getElem?_map, List.getElem?_eq_getElem hi]
  rfl
theorem ax_set {S : Sto} {n i : Nat} {rs : List (List Str)} {o : MO} {q : List Str} (hS : S.length = n) : List.set (S ++ (o :: rs.map rwO)) (n + 1 + i) (rwO q) = S ++ (o :: (rs.set i q).map rwO) := by
  subst hS
  apply List.ext_getElem?
  intro j
  by_cases h1 : j < S.length
  · rw [List.getElem?_set_ne (by omega), List.getElem?_append_left h1, List.getElem?_append_left h1]
  · obtain ⟨k, rfl⟩ : ∃ k, j = S.length + k := ⟨j - S.length, by omega⟩
    rw [List.getElem?_append_right (by omega), show S.length + k - S.length = k by omega]
    cases k with
    | zero => rw [List.getElem?_set_ne (by omega), List.getElem?_append_right (by omega)]; simp
    | succ k =>
      rw [List.getElem?_cons_succ, List.getElem?_map, List.getElem?_set]
      by_cases e : i = k
      · subst e
        rw [if_pos (by omega)]
        by_cases hl : i < rs.length
        · rw [if_pos (by simp; omega), List.getElem?_set_self hl]
          rfl
        · rw [if_neg (by simp; omega), List.getElem?_eq_none (by simp; omega)]
          rfl
      · rw [if_neg (by omega), List.getElem?_set_ne e, List.getElem?_append_right (by omega), show S.length + (k + 1) - S.length = k + 1 by omega, List.getElem?_cons_succ, List.getElem?_map]
abbrev Ax (n : Nat) (rs : List (List Str)) : Sto := tlO n rs.length :: rs.map rwO
section
variable {r c h n : Nat} {most : Str} {wl : Int} {a b x y : Option T} {S : Sto}
theorem row_ok (hm : most ∈ KS) (hw : Cw S) {rs : List (List Str)} (hS : S.length = n) (hc : c ≤ 100) (hrs : rs.length ≤ 1000) : ∃ ks x' y' S1, ks.length = c ∧ (∀ z ∈ ks, z ∈ KS) ∧ Ch S S1 ∧
    L__law_board_v1_1 (shB r c h most wl n a b x y) (S ++ Ax n rs) = .nx (shB r c h most wl n a (some (.ref (n + 1 + rs.length))) x' y') (S1 ++ Ax n (rs ++ [ks])) := by
  obtain ⟨sl', S', q1, ks, S1, x', y', rfl, w1, rfl, hks, hl⟩ := forL_inv (src := none) (all := (List.range c).map fun k => T.int (k : Nat)) (g := gN 10) (b := L__law_board_v1_0) (fun k : Nat => T.int k)
    (fun xs sl St => ∃ (ks : List Str) (S1 : Sto) (x y : Option T), St = S1 ++ (tlO n rs.length :: (rs.map rwO ++ [rwO ks])) ∧ Ch S S1 ∧ sl = shB r c h most wl n a (some (.ref (n + 1 + rs.length))) x y ∧ (∀ z ∈ ks, z ∈ KS) ∧ ks.length + xs.length = c) (fun _ _ _ _ => trivial) (by
      rintro k xs sl St ⟨ks, S1, x, y, rfl, w1, rfl, hks, hl⟩
      rw [List.length_cons] at hl
      obtain ⟨z, y', S2, mz, w2, e⟩ := cell_ok (r := r) (c := c) (h := h) (wl := wl) (a := a) (x := some (.int k)) (y := y) hm w1.w (k := rs.length) (rs := rs) (ks := ks) (w1.len.trans hS) (by omega)
      refine ⟨_, _, _, _, gN_eq _, .inl e, ks ++ [z], S2, _, _, rfl, w1.trans w2, rfl, fun u hu => ?_, by simp; omega⟩
      rcases List.mem_append.mp hu with q | q
      · exact hks u q
      · rw [List.mem_singleton.mp q]; exact mz)
    (List.range c) (shB r c h most wl n a (some (.ref (n + 1 + rs.length))) x y) (S ++ (tlO n rs.length :: (rs.map rwO ++ [rwO []]))) ⟨[], S, x, y, rfl, .refl hw, rfl, by simp, by simp⟩
  refine ⟨ks, x', y', S1, by simpa using hl, hks, w1, ?_⟩
  have len0 : (S ++ Ax n rs).length = n + 1 + rs.length := by simp [hS]; omega
  have hr : dRng1 (dCons (dVar 2) dNil) (shB r c h most wl n a (some (.ref (n + 1 + rs.length))) x y) (S ++ (tlO n rs.length :: (rs.map rwO ++ [rwO []]))) = .ok none ((List.range c).map fun k => T.int (k : Nat)) (S ++ (tlO n rs.length :: (rs.map rwO ++ [rwO []]))) := dRng1_eq (n := c) (by simp) (by omega)
  have hf := dFor_eq (dRng1 (dCons (dVar 2) dNil)) (gN 10) L__law_board_v1_0 _ _ hr
  have s1 : (dSetM 9 (dLst dNil)) (shB r c h most wl n a b x y) (S ++ Ax n rs) = .nx (shB r c h most wl n a (some (.ref (n + 1 + rs.length))) x y) (S ++ (tlO n rs.length :: (rs.map rwO ++ [rwO []]))) := by
    simp [len0]
  have g : (S1 ++ (tlO n rs.length :: (rs.map rwO ++ [rwO ks])))[n]? = some (tlO n rs.length) := bx_tl (w1.len.trans hS)
  have p : List.set (S1 ++ (tlO n rs.length :: (rs.map rwO ++ [rwO ks]))) n (tlO n (rs.length + 1)) = S1 ++ Ax n (rs ++ [ks]) := by
    rw [bx_tls (w1.len.trans hS)]
    simp
  have p2 : MO.lst (((List.range rs.length).map fun i => T.ref (n + 1 + i)) ++ [T.ref (n + 1 + rs.length)]) = tlO n (rs.length + 1) := by
    simp [List.range_succ]
  unfold L__law_board_v1_1
  rw [dSeq_eq, s1, RS.seq_nx, dSeq_eq, hf, q1, RS.seq_nx]
  have hz : rs.length < 16777216 := by omega
  have q : fAppend (.ref n) [.ref (n + 1 + rs.length)] (S1 ++ (tlO n rs.length :: (rs.map rwO ++ [rwO ks]))) = .ok .non (S1 ++ Ax n (rs ++ [ks])) := by
    rw [fAppend_ref g, if_pos (by simpa using hz), p2, p]
  have qt : mTy (S1 ++ (tlO n rs.length :: (rs.map rwO ++ [rwO ks]))) (.ref n) = some "list" := mTy_ref g
  simp only [dExpr_eq, dMeth_eq, dVar_eq, List.getElem?_cons_zero, List.getElem?_cons_succ, varR_some, RE.bind_ok, fz_ref, dCons_eq, dNil_eq, RE.consA_ok, RA.cons_ok]
  simp [q, qt]
theorem fin_ok {rs : List (List Str)} (hS : S.length = n) (hl : rs.length ≤ 1000) : (dRet (dCall fTuple (dCons C__law_board_v1_2 dNil))) (shB r c h most wl n a b x y) (S ++ Ax n rs) = .rt (eB rs) (S ++ Ax n rs) := by
  have g : (S ++ Ax n rs)[n]? = some (tlO n rs.length) := bx_tl hS
  have hc : C__law_board_v1_2 (shB r c h most wl n a b x y) (S ++ Ax n rs) = .ok (.nlst (rs.map eR)) (S ++ Ax n rs) := by
    unfold C__law_board_v1_2
    rw [dLc_eq _ _ _ _ _ _ _ (dIt_eq (S1 := S ++ Ax n rs) (t := .ref n) (src := some n) (ts := (List.range rs.length).map fun i => T.ref (n + 1 + i)) (by simp) (by unfold itOf; simp only [fz_ref, g]))]
    rw [lcL_map (show Still (some n) ((List.range rs.length).map fun i => T.ref (n + 1 + i)) (S ++ Ax n rs) from g) (fun i : Nat => T.ref (n + 1 + i)) (fun _ => true) (fun i => eR (row rs i)) (List.range rs.length) [] ?_ (by simp; omega)]
    · rw [List.nil_append, List.filter_eq_self.mpr (fun _ _ => rfl)]
      congr 2
      apply List.ext_getElem?
      intro i
      by_cases hi : i < rs.length
      · rw [List.getElem?_map, List.getElem?_range hi, List.getElem?_map, List.getElem?_eq_getElem hi]
        simp [row, List.getElem?_eq_getElem hi]
      · rw [List.getElem?_eq_none (by simp; omega), List.getElem?_eq_none (by simp; omega)]
    · intro i hi
      have hi' : i < rs.length := by simpa using hi
      have g2 : (S ++ Ax n rs)[n + 1 + i]? = some (rwO rs[i]) := ax_get hS hi'
      refine ⟨shB r c h most wl n (some (.ref (n + 1 + i))) b x y, by simp [wipeT], rfl, fun _ => ⟨eR (row rs i), ?_, rfl⟩⟩
      simp only [dCall_eq, dCons_eq, dVar_eq, List.getElem?_cons_zero, List.getElem?_cons_succ, varR_some, dNil_eq, RE.consA_ok, RA.cons_ok, RA.bind_ok, fz_ref, fTuple_ref g2]
      simp [eR, row, List.getElem?_eq_getElem hi']
  simp [hc, eB]
end
theorem row_mem {b : Brd} {i : Nat} (h : i < b.length) : row b i ∈ b := by
  unfold row
  rw [List.getElem?_eq_getElem h]
  exact List.getElem_mem h
theorem kb_of {rs : List (List Str)} {r c : Nat} (h0 : 0 < r) (hc : 0 < c) (r100 : r ≤ 100) (c100 : c ≤ 100) (hl : rs.length = r) (hw : ∀ q ∈ rs, q.length = c) (hk : ∀ q ∈ rs, ∀ k ∈ q, k ∈ KS) : KB rs r c := by
  have hwd : wd rs = c := hw _ (row_mem (by omega))
  exact ⟨⟨by omega, by omega, fun q hq => by rw [hwd]; exact hw q hq, by omega, by omega⟩, hl, hwd, hk⟩
theorem board1_ok {S : Sto} (hw : Cw S) {r c : Nat} (h0 : 0 < r) (hc : 0 < c) (r100 : r ≤ 100) (c100 : c ≤ 100) : ∃ b S1, F__law_board_v1 [.ref 1, .int r, .int c] S = .ok (eB b) S1 ∧ Ch S S1 ∧ KB b r c ∧ Some1 b := by
  obtain ⟨h, S1, e1, l1, w1⟩ := pull0 hw 6 (by omega) (by omega)
  replace e1 : F__law_pull [.ref 1, .int 6] S = .ok (.int h) S1 := e1
  obtain ⟨i2, t2, S2, e2, l2, w2⟩ := from_tup w1.w [] (KS.map T.str) (by decide) (by decide) (lts_strs _ _)
  obtain ⟨most, hm, rfl⟩ : ∃ z, z ∈ KS ∧ t2 = .str z := by
    rw [List.getElem?_map] at l2
    cases e : KS[i2]? with
    | none => rw [e] at l2; cases l2
    | some z => rw [e] at l2; cases l2; exact ⟨z, List.mem_of_getElem? e, rfl⟩
  obtain ⟨i3, t3, S3, e3, l3, w3⟩ := from_tup w2.w [] [.int 0, .int 0, .int 1, .int 4] (by simp) (by simp) (by simp)
  obtain ⟨wl, rfl⟩ : ∃ wl : Int, t3 = .int wl := by
    match i3, l3 with
    | 0, h => exact ⟨0, by simpa using h.symm⟩
    | 1, h => exact ⟨0, by simpa using h.symm⟩
    | 2, h => exact ⟨1, by simpa using h.symm⟩
    | 3, h => exact ⟨4, by simpa using h.symm⟩
  rw [List.append_nil, List.append_nil] at e2 e3
  have w13 := (w1.trans w2).trans w3
  obtain ⟨n, hn⟩ : ∃ n, S3.length = n := ⟨_, rfl⟩
  obtain ⟨sl', S', q1, rs, S4, a', b', x', y', rfl, w4, rfl, hrl, hrw, hrk⟩ := forL_inv (src := none) (all := (List.range r).map fun k => T.int (k : Nat)) (g := gN 8) (b := L__law_board_v1_1) (fun k : Nat => T.int k)
    (fun xs sl St => ∃ (rs : List (List Str)) (S4 : Sto) (a b x y : Option T), St = S4 ++ Ax n rs ∧ Ch S3 S4 ∧ sl = shB r c h most wl n a b x y ∧ rs.length + xs.length = r ∧ (∀ q ∈ rs, q.length = c) ∧ (∀ q ∈ rs, ∀ k ∈ q, k ∈ KS)) (fun _ _ _ _ => trivial) (by
      rintro k xs sl St ⟨rs, S4, a, b, x, y, rfl, w4, rfl, hl, hrw, hrk⟩
      rw [List.length_cons] at hl
      obtain ⟨ks, x', y', S5, k1, k2, w5, e⟩ := row_ok (r := r) (h := h) (wl := wl) (a := some (.int k)) (b := b) (x := x) (y := y) hm w4.w (rs := rs) (w4.len.trans hn) c100 (by omega)
      refine ⟨_, _, _, _, gN_eq _, .inl e, rs ++ [ks], S5, _, _, _, _, rfl, w4.trans w5, rfl, by simp; omega, fun q hq => ?_, fun q hq => ?_⟩
      · rcases List.mem_append.mp hq with z | z
        · exact hrw q z
        · rw [List.mem_singleton.mp z]; exact k1
      · rcases List.mem_append.mp hq with z | z
        · exact hrk q z
        · rw [List.mem_singleton.mp z]; exact k2)
    (List.range r) (shB r c h most wl n none none none none) (S3 ++ Ax n []) ⟨[], S3, _, _, _, _, rfl, .refl w3.w, rfl, by simp, by simp, by simp⟩
  have hrl : rs.length = r := by simpa using hrl
  have w14 := w13.trans w4
  obtain ⟨i, S5, e5, l5, w5⟩ := pull_nat w4.w (Ax n rs) r h0 (by omega)
  obtain ⟨j, S6, e6, l6, w6⟩ := pull_nat w5.w (Ax n rs) c hc (by omega)
  have w16 := (w14.trans w5).trans w6
  have n5 : S5.length = n := (w4.trans w5).len.trans hn
  have n6 : S6.length = n := ((w4.trans w5).trans w6).len.trans hn
  have hi : i < rs.length := by omega
  have hrow : row rs i = rs[i] := by simp [row, List.getElem?_eq_getElem hi]
  have hlr : rs[i].length = c := hrw _ (List.getElem_mem hi)
  have hj : j < rs[i].length := by omega
  have f5 : fIx (.ref n) (.int i) (S5 ++ Ax n rs) = .ok (.ref (n + 1 + i)) (S5 ++ Ax n rs) := by
    rw [fIx_ref (bx_tl n5), atI_n, List.getElem?_map, List.getElem?_range hi]
    rfl
  have g6 : (S6 ++ Ax n rs)[n + 1 + i]? = some (rwO rs[i]) := ax_get n6 hi
  have f6 : fIx (.ref (n + 1 + i)) (.int j) (S6 ++ Ax n rs) = .ok (.str rs[i][j]) (S6 ++ Ax n rs) := by
    rw [fIx_ref g6, atI_n, List.getElem?_map, List.getElem?_eq_getElem hj]
    rfl
  have hr : dRng1 (dCons (dVar 1) dNil) (shB r c h most wl n none none none none) (S3 ++ Ax n []) = .ok none ((List.range r).map fun k => T.int (k : Nat)) (S3 ++ Ax n []) := dRng1_eq (n := r) (by simp) (by omega)
  have hf := dFor_eq (dRng1 (dCons (dVar 1) dNil)) (gN 8) L__law_board_v1_1 _ _ hr
  -- up to the row
  have hbody : F__law_board_v1 [.ref 1, .int r, .int c] S = gcR S (((dIf (dTest (dBin (fEq false) (dBin fIx (dVar 8) (dVar 10)) (dC (.str "")))) (dAsg (dBin fIx (dVar 3) (dBin fAdd (dC (.int 1)) (dOwn 2 F__law_pull (dCons (dVar 0) (dCons (dC (.int 7)) dNil))))) (gSubD (dVar 8) (dVar 10))) dNext)
      (shB r c h most wl n (some (.ref (n + 1 + i))) b' (some (.int j)) y') (S6 ++ Ax n rs)).seq (dRet (dCall fTuple (dCons C__law_board_v1_2 dNil)))) := by
    have e2' : F__law_from [.ref 1, .tup [.str "", .str "d", .str "ds", .str "dsu", .str "du", .str "s", .str "su", .str "u"]] S1 = .ok (.str most) S2 := e2
    have ax0 : S3 ++ [MO.lst []] = S3 ++ Ax n [] := by simp [Ax]
    simp only [F__law_board_v1, dFun_eq (np := 3) (n := 12) (ts := [.ref 1, T.int r, T.int c]) rfl, b__law_board_v1]
    have hf' := hf
    have q1' := q1
    simp only [shB, KS, List.map_cons, List.map_nil] at hf' q1'
    simp [e1, e2', e3, ax0, hn]
    rw [hf', q1']
    simp [e5, f5, e6]
    rfl
  rw [hbody]
  by_cases hz : rs[i][j] = ""
  · obtain ⟨m, S7, e7, l7, w7⟩ := pull_nat w6.w (Ax n rs) 7 (by omega) (by omega)
    replace e7 : F__law_pull [.ref 1, .int 7] (S6 ++ Ax n rs) = .ok (.int m) (S7 ++ Ax n rs) := e7
    obtain ⟨z, z1, z2, z3⟩ := kinds_ix l7 (S7 ++ Ax n rs)
    have w17 := w16.trans w7
    have n7 : S7.length = n := w7.len.trans n6
    have g7 : (S7 ++ Ax n rs)[n + 1 + i]? = some (rwO rs[i]) := ax_get n7 hi
    have p7 : dput (S7 ++ Ax n rs) (.ref (n + 1 + i)) (.int j) (.str z) = some (S7 ++ Ax n (rs.set i (rs[i].set j z))) := by
      rw [dput_ref g7 (ixN_nat (by simpa using hj)), show MO.lst ((rs[i].map T.str).set j (.str z)) = rwO (rs[i].set j z) by rw [← List.map_set], ax_set n7]
      simp [Ax]
    have hs : (dIf (dTest (dBin (fEq false) (dBin fIx (dVar 8) (dVar 10)) (dC (.str "")))) (dAsg (dBin fIx (dVar 3) (dBin fAdd (dC (.int 1)) (dOwn 2 F__law_pull (dCons (dVar 0) (dCons (dC (.int 7)) dNil))))) (gSubD (dVar 8) (dVar 10))) dNext)
      (shB r c h most wl n (some (.ref (n + 1 + i))) b' (some (.int j)) y') (S6 ++ Ax n rs) = .nx (shB r c h most wl n (some (.ref (n + 1 + i))) b' (some (.int j)) y') (S7 ++ Ax n (rs.set i (rs[i].set j z))) := by
      simp only [dIf_eq, dTest_eq, dAsg_eq, dBin_eq, dVar_eq, List.getElem?_cons_zero, List.getElem?_cons_succ, varR_some, RE.bind_ok, dC_eq, dOwn_eq, dCons_eq, dNil_eq, RE.consA_ok, RA.cons_ok, RA.bind_ok, fz_ref, fz_int, fz_tup, fz_str, f6, hz]
      simp [e7, z3, p7]
    rw [hs, RS.seq_nx, fin_ok n7 (by simp; omega), gcR_rt, w17.gcA _ (by simp)]
    have hmem : ∀ q ∈ rs.set i (rs[i].set j z), q = rs[i].set j z ∨ q ∈ rs := fun q hq => (List.mem_or_eq_of_mem_set hq).symm
    refine ⟨rs.set i (rs[i].set j z), S7, rfl, w17, kb_of h0 hc r100 c100 (by simp [hrl]) (fun q hq => ?_) (fun q hq k hk => ?_), rs[i].set j z, ?_, z, ?_, z2⟩
    · rcases hmem q hq with e | e
      · rw [e, List.length_set, hlr]
      · exact hrw q e
    · rcases hmem q hq with e | e
      · rw [e] at hk
        rcases List.mem_or_eq_of_mem_set hk with k1 | k1
        · exact hrk _ (List.getElem_mem hi) k k1
        · rw [k1]; exact z1
      · exact hrk q e k hk
    · exact List.mem_set hi _
    · exact List.mem_set hj _
  · have hs : (dIf (dTest (dBin (fEq false) (dBin fIx (dVar 8) (dVar 10)) (dC (.str "")))) (dAsg (dBin fIx (dVar 3) (dBin fAdd (dC (.int 1)) (dOwn 2 F__law_pull (dCons (dVar 0) (dCons (dC (.int 7)) dNil))))) (gSubD (dVar 8) (dVar 10))) dNext)
      (shB r c h most wl n (some (.ref (n + 1 + i))) b' (some (.int j)) y') (S6 ++ Ax n rs) = .nx (shB r c h most wl n (some (.ref (n + 1 + i))) b' (some (.int j)) y') (S6 ++ Ax n rs) := by
      simp [f6, hz]
    rw [hs, RS.seq_nx, fin_ok n6 (by omega), gcR_rt, w16.gcA _ (by simp)]
    exact ⟨rs, S6, rfl, w16, kb_of h0 hc r100 c100 hrl hrw hrk, rs[i], List.getElem_mem hi, rs[i][j], List.getElem_mem hj, hz⟩
end Bd

/-! loops that look at all, texts sign by sign -/
namespace Bd
open PySem PySem.Spec L2 Dn Pk
/-- a loop that looks at each, and returns at the first that is not so -/
theorem for_all {α : Type} {src : Option Nat} {all : List T} {g : DG} {b : DS} {S : Sto} (e : α → T) (hS : Still src all S) (p : α → Bool) (P : Sl → Prop) (t0 : T) : ∀ (xs : List α),
    (∀ x ∈ xs, ∀ sl, P sl → ∃ sl1, g (e x) sl S = some (sl1, S) ∧ ((p x = true ∧ ∃ sl2, (b sl1 S = .nx sl2 S ∨ b sl1 S = .ct sl2 S) ∧ P sl2) ∨ (p x = false ∧ b sl1 S = .rt t0 S))) → ∀ (sl : Sl), P sl →
    (xs.all p = true ∧ ∃ sl', forL src all g b (xs.map e) sl S = .nx sl' S ∧ P sl') ∨ (xs.all p = false ∧ forL src all g b (xs.map e) sl S = .rt t0 S)
  | [], _, sl, hP => .inl ⟨rfl, sl, by rw [List.map_nil, forL, if_pos hS], hP⟩
  | x :: xs, h, sl, hP => by
    obtain ⟨sl1, h1, h2⟩ := h x List.mem_cons_self sl hP
    rw [List.map_cons, forL, if_pos hS, h1]
    rcases h2 with ⟨h2, sl2, h3, h4⟩ | ⟨h2, h3⟩
    · rcases for_all e hS p P t0 xs (fun y hy => h y (List.mem_cons_of_mem _ hy)) sl2 h4 with ⟨q1, sl', q2, q3⟩ | ⟨q1, q2⟩
      · refine .inl ⟨by rw [List.all_cons, h2, q1]; rfl, sl', ?_, q3⟩
        rcases h3 with h3 | h3 <;> (simp only [h3]; exact q2)
      · refine .inr ⟨by rw [List.all_cons, h2, q1]; rfl, ?_⟩
        rcases h3 with h3 | h3 <;> (simp only [h3]; exact q2)
    · refine .inr ⟨by rw [List.all_cons, h2]; rfl, ?_⟩
      simp only [h3]
/-- the text of signs -/
abbrev Sx (l : List Nat) : Str := ⟨l.toArray⟩
abbrev ch (c : Nat) : T := .str ⟨#[c]⟩
def tl (z : Str) : List Nat := z.cps.toList
@[simp] theorem Sx_tl (z : Str) : Sx (tl z) = z := by
  obtain ⟨⟨l⟩⟩ := z
  rfl
@[simp] theorem tl_Sx (l : List Nat) : tl (Sx l) = l := rfl
@[simp] theorem len_Sx (l : List Nat) : (Sx l).length = l.length := by show l.toArray.size = _; simp
theorem len_tl (z : Str) : (tl z).length = z.length := by show z.cps.toList.length = z.cps.size; simp
theorem Sx_cat (a b : List Nat) : Sx a ++ Sx b = Sx (a ++ b) := SX.S_cat a b
theorem Sx_inj {a b : List Nat} : Sx a = Sx b ↔ a = b := ⟨SX.S_inj, fun h => by rw [h]⟩
theorem joinL0 : ∀ ys : List (List Nat), TL.joinL [] ys = ys.flatten
  | [] => rfl
  | [p] => by simp [TL.joinL]
  | p :: q :: r => by rw [TL.joinL, joinL0 (q :: r)]; simp
theorem join0 (ys : List Str) : Txt.join ("" : Str) ys = Sx (ys.flatMap tl) := by
  have e : ys = (ys.map tl).map Sx := by
    rw [List.map_map]
    exact (List.map_id' ys).symm.trans (List.map_congr_left fun z _ => (Sx_tl z).symm)
  have := SX.join_S [] (ys.map tl)
  rw [joinL0] at this
  conv => lhs; rw [e]
  exact this.trans (by rw [List.flatMap_def])
theorem strsT_map : ∀ ys : List Str, strsT (ys.map T.str) = some ys
  | [] => rfl
  | y :: ys => by
    rw [List.map_cons, strsT, strsT_map ys]
    first | rfl | simp
theorem fJoin0 {t : T} {S : Sto} {ys : List Str} (h : seqOf S t = some (ys.map T.str)) (hl : (ys.map (·.length)).sum ≤ 16777216) : fJoin (.str "") [t] S = .ok (.str (Sx (ys.flatMap tl))) S := by
  unfold fJoin
  simp only [h, strsT_map]
  rw [if_pos (by rw [show ("" : Str).length = 0 from rfl]; omega), join0]
theorem flat1 : ∀ cs : List Nat, (cs.map fun c => (⟨#[c]⟩ : Str)).flatMap tl = cs
  | [] => rfl
  | c :: cs => by rw [List.map_cons, List.flatMap_cons, flat1 cs]; rfl
theorem fJoin_ch {S : Sto} {cs : List Nat} (hl : cs.length ≤ 16777216) : fJoin (.str "") [.lst (cs.map ch)] S = .ok (.str (Sx cs)) S := by
  have := fJoin0 (t := .lst (cs.map ch)) (S := S) (ys := cs.map fun c => (⟨#[c]⟩ : Str)) (by rw [List.map_map]; rfl) (by
    rw [List.map_map]
    have : (cs.map ((fun x : Str => x.length) ∘ fun c => (⟨#[c]⟩ : Str))) = cs.map fun _ => 1 := rfl
    rw [this]
    simp [List.map_const', List.sum_replicate_nat, hl])
  rw [flat1] at this
  exact this
@[simp] theorem fIn_ch {n : Bool} {c : Nat} {z : Str} {S : Sto} : fIn n (ch c) (.str z) S = .ok (.bl (if n then !decide (c ∈ tl z) else decide (c ∈ tl z))) S := id rfl
@[simp] theorem itOf_str {S : Sto} {z : Str} : itOf S (.str z) = some (none, (tl z).map ch) := id rfl
theorem fIx_str {S : Sto} {z : Str} {i : Nat} (hl : z.length ≤ 16777216) (h : i < z.length) : fIx (.str z) (.int i) S = .ok (ch ((tl z)[i]?.getD 0)) S := by
  have hi : i < (tl z).length := by rw [len_tl]; exact h
  show (if z.length ≤ sizeLine then (match atI (tl z) i with | some c => RE.ok (T.str ⟨#[c]⟩) S | none => .bad) else .bad) = _
  rw [if_pos (by simpa using hl), atI_n, List.getElem?_eq_getElem hi]
  rfl
theorem Sx_ne {l : List Nat} : Sx l = ("" : Str) ↔ l = [] := by
  have : ("" : Str) = Sx [] := rfl
  rw [this, Sx_inj]
theorem ne_tl {z : Str} : z = ("" : Str) ↔ tl z = [] := by
  have := Sx_ne (l := tl z)
  rw [Sx_tl] at this
  exact this
end Bd

/-! boards turned and mirrored -/
namespace Bd
open PySem PySem.Spec L2 Dn Pk
theorem lay_strs : ∀ l : List Str, (∀ z ∈ l, PyData.strOk z = true) → PyData.canLayAll0 (T.dats (l.map T.str)) = true ∧ PyData.depthAll (T.dats (l.map T.str)) ≤ 1
  | [], _ => by simp [T.dats, PyData.canLayAll0, PyData.depthAll]
  | c :: l, h => by
    obtain ⟨h1, h2⟩ := lay_strs l fun d hd => h d (List.mem_cons_of_mem _ hd)
    have := h c List.mem_cons_self
    constructor
    · simp [T.dat, T.dats, PyData.canLayAll0, PyData.canLay0, h1, this]
    · simp only [List.map_cons, T.dats, PyData.depthAll, T.dat, PyData.depth]
      omega
theorem any_strs {c : Str} : ∀ l : List Str, ((T.dats (l.map T.str)).any fun z => PyData.eqv z (T.str c).dat) = decide (c ∈ l)
  | [] => by simp [T.dats]
  | t :: l => by
    rw [List.map_cons, T.dats, List.any_cons, any_strs l]
    have e : PyData.eqv (T.str t).dat (T.str c).dat = decide (t = c) := by
      simp only [T.dat, PyData.eqv]
      by_cases h : t = c
      · subst h; simp
      · rw [decide_eq_false h, beq_eq_false_iff_ne]; exact h
    rw [e]
    by_cases h : c = t
    · subst h; simp
    · have : t ≠ c := fun q => h q.symm
      simp [h, this]
theorem fIn_strs {n : Bool} {c : Str} {l : List Str} {S : Sto} (hc : PyData.strOk c = true) (h : ∀ z ∈ l, PyData.strOk z = true) : fIn n (.str c) (.lst (l.map T.str)) S = .ok (.bl (if n then !decide (c ∈ l) else decide (c ∈ l))) S := by
  have h1 : fit (dato S (T.str c)) = true := by
    show SeqAt.shaped (T.str c).dat = true
    simp [T.dat, SeqAt.shaped, PyData.canLay0, PyData.depth, hc]
  obtain ⟨l1, l2⟩ := lay_strs l h
  have h2 : fit (.list (T.dats (l.map T.str))) = true := by
    simp [fit, SeqAt.shaped, PyData.canLay0, PyData.depth, l1]
    omega
  have h4 := any_strs (c := c) l
  have h5 : dato S (T.str c) = (T.str c).dat := rfl
  have h6 : fIn n (.str c) (.lst (l.map T.str)) S = (if fit (dato S (T.str c)) && fit (.list (T.dats (l.map T.str))) then .ok (.bl (if n then !((T.dats (l.map T.str)).any fun z => PyData.eqv z (dato S (T.str c))) else (T.dats (l.map T.str)).any fun z => PyData.eqv z (dato S (T.str c)))) S else .bad) := rfl
  rw [h6, h1, h2, h5, h4]
  rfl
theorem fIn_strsT {n : Bool} {c : Str} {l : List Str} {S : Sto} (hc : PyData.strOk c = true) (h : ∀ z ∈ l, PyData.strOk z = true) : fIn n (.str c) (.tup (l.map T.str)) S = .ok (.bl (if n then !decide (c ∈ l) else decide (c ∈ l))) S := by
  have h1 : fit (dato S (T.str c)) = true := by
    show SeqAt.shaped (T.str c).dat = true
    simp [T.dat, SeqAt.shaped, PyData.canLay0, PyData.depth, hc]
  obtain ⟨l1, l2⟩ := lay_strs l h
  have h2 : fit (.list (T.dats (l.map T.str))) = true := by
    simp [fit, SeqAt.shaped, PyData.canLay0, PyData.depth, l1]
    omega
  have h4 := any_strs (c := c) l
  have h5 : dato S (T.str c) = (T.str c).dat := rfl
  have h6 : fIn n (.str c) (.tup (l.map T.str)) S = (if fit (dato S (T.str c)) && fit (.list (T.dats (l.map T.str))) then .ok (.bl (if n then !((T.dats (l.map T.str)).any fun z => PyData.eqv z (dato S (T.str c))) else (T.dats (l.map T.str)).any fun z => PyData.eqv z (dato S (T.str c)))) S else .bad) := rfl
  rw [h6, h1, h2, h5, h4]
  rfl
theorem at_KS {b : Brd} {r c : Nat} (h : KB b r c) {i j : Nat} (hi : i < b.length) (hj : j < wd b) : at_ b i j ∈ KS := by
  have hl := len_row h.wb hi
  have e : at_ b i j = (row b i)[j] := by
    unfold at_
    rw [List.getElem?_eq_getElem (by omega)]
    rfl
  rw [e]
  exact h.ks _ (row_mem hi) _ (List.getElem_mem _)
theorem KB.pos {b : Brd} {r c : Nat} (h : KB b r c) : 0 < r ∧ 0 < c ∧ r ≤ 100 ∧ c ≤ 100 := by
  have := h.wb.rows; have := h.wb.cols; have := h.wb.few; have := h.wb.fewc; have := h.len; have := h.wid
  omega
theorem KS_ok : ∀ k ∈ KS, PyData.strOk k = true := by decide +kernel
def exN (c : Nat) : Nat := if c = 100 then 117 else if c = 117 then 100 else c
def KH : List Str := ["", "d", "ds", "dsu", "du", "s", "su", "u", "#"]
def sgn (k : Str) : Str := if k = "#" then "#" else Sx ([100, 115, 117].filter fun c => decide (exN c ∈ tl k))
theorem KS_KH : ∀ k ∈ KS, k ∈ KH := by decide +kernel
theorem sgn_KH : ∀ k ∈ KH, sgn k ∈ KH := by decide +kernel
theorem sgn_KS : ∀ k ∈ KS, sgn k ∈ KS := by decide +kernel
theorem sgn_sgn : ∀ k ∈ KH, sgn (sgn k) = k := by decide +kernel
theorem sgn_e : ∀ k ∈ KH, (sgn k = "") = (k = "") := by
  have : ∀ k ∈ KH, decide (sgn k = "") = decide (k = "") := by decide +kernel
  intro k hk
  have := this k hk
  exact propext (decide_eq_decide.mp this)
theorem KH_len : ∀ k ∈ KH, k.length ≤ 3 := by decide +kernel
theorem KS_let : ∀ k ∈ KS, ∀ c ∈ tl k, c ∈ [100, 115, 117] := by decide +kernel
def S4 : List Nat := [35, 100, 115, 117]
theorem sgn_one : ∀ c ∈ S4, sgn (Sx [c]) = Sx [exN c] ∧ Sx [c] ∈ KH ∧ exN c ∈ S4 := by decide +kernel
theorem ex_ix {c : Nat} (hc : c ∈ S4) {S : Sto} : fIx c_EXCHANGED (ch c) S = .ok (ch (exN c)) S := by
  simp only [S4, List.mem_cons, List.not_mem_nil, or_false] at hc
  rcases hc with rfl | rfl | rfl | rfl <;> rfl
theorem let_in : ∀ k ∈ KS, ∀ c ∈ [100, 115, 117], decide (Sx [c] ∈ (tl k).map fun c => Sx [exN c]) = decide (exN c ∈ tl k) := by decide +kernel
theorem let_ok : ∀ k ∈ KS, ∀ z ∈ (tl k).map (fun c => Sx [exN c]), PyData.strOk z = true := by decide +kernel
theorem KS_nh : ∀ k ∈ KS, k ≠ "#" := by decide +kernel
theorem exch_kind_ok {k : Str} (hk : k ∈ KS) {S : Sto} : F_exchanged_kind [.str k] S = .ok (.str (sgn k)) S := by
  have hkl := KS_len k hk
  have h1 : C_exchanged_kind_0 [some (.str k), none] S = .ok (.nlst (((tl k).map fun c => Sx [exN c]).map T.str)) S := by
    unfold C_exchanged_kind_0
    rw [dLc_eq _ _ _ _ _ _ _ (dIt_eq (S1 := S) (t := .str k) (src := none) (ts := (tl k).map ch) (by simp) rfl)]
    rw [lcL_map still_none ch (fun _ => true) (fun c => ch (exN c)) (tl k) [] ?_ (by rw [len_tl]; simp; omega)]
    · rw [List.nil_append, List.filter_eq_self.mpr (fun _ _ => rfl), List.map_map]
      rfl
    · intro c hc
      have hc4 : c ∈ S4 := by
        have := KS_let k hk c hc
        simp only [S4, List.mem_cons, List.not_mem_nil, or_false] at this ⊢
        omega
      exact ⟨[some (.str k), some (ch c)], by simp [wipeT], rfl, fun _ => ⟨ch (exN c), by simp [ex_ix hc4], rfl⟩⟩
  have h2 : C_kind_of_letters_0 [some (.lst (((tl k).map fun c => Sx [exN c]).map T.str)), none] S = .ok (.nlst (([100, 115, 117].filter fun c => decide (exN c ∈ tl k)).map ch)) S := by
    unfold C_kind_of_letters_0
    rw [dLc_eq _ _ _ _ _ _ _ (dIt_eq (S1 := S) (t := c_LETTERS) (src := none) (ts := [100, 115, 117].map ch) (by simp) rfl)]
    rw [lcL_map still_none ch (fun c => decide (exN c ∈ tl k)) ch [100, 115, 117] [] ?_ (by rw [PySem.sizeLine_eq]; simp)]
    · rw [List.nil_append]
    · intro c hc
      have hin := fIn_strs (n := false) (c := Sx [c]) (l := (tl k).map fun c => Sx [exN c]) (S := S) (by
        have : ∀ c ∈ [100, 115, 117], PyData.strOk (Sx [c]) = true := by decide +kernel
        exact this c hc) (let_ok k hk)
      have e := let_in k hk c hc
      simp only [Bool.false_eq_true, if_false, e] at hin
      have hin' : fIn false (ch c) (.lst (((tl k).map fun c => Sx [exN c]).map T.str)) S = .ok (.bl (decide (exN c ∈ tl k))) S := hin
      generalize ((tl k).map fun c => Sx [exN c]).map T.str = L at hin' ⊢
      exact ⟨[some (.lst L), some (ch c)], by simp [wipeT], by simp [hin'], fun _ => ⟨ch c, by simp, rfl⟩⟩
  have hfl : ([100, 115, 117].filter fun c => decide (exN c ∈ tl k)).length ≤ 16777216 := Nat.le_trans (List.length_filter_le _ _) (by simp)
  have hj := fJoin_ch (S := S) hfl
  have es : sgn k = Sx ([100, 115, 117].filter fun c => decide (exN c ∈ tl k)) := by unfold sgn; rw [if_neg (KS_nh k hk)]
  rw [es]
  generalize ((tl k).map fun c => Sx [exN c]).map T.str = L at h1 h2
  generalize ([100, 115, 117].filter fun c => decide (exN c ∈ tl k)) = M at h2 hj
  have hk2 : F_kind_of_letters [.lst L] S = .ok (.str (Sx M)) S := by
    simp [F_kind_of_letters, dFun_eq, b_kind_of_letters, h2, hj]
    rw [gcT_same (by simp)]
  simp [F_exchanged_kind, dFun_eq, b_exchanged_kind, h1, hk2]
  rw [gcT_same (by simp)]
/-- the board told cell by cell -/
def mkB (r c : Nat) (f : Nat → Nat → Str) : Brd := (List.range r).map fun i => (List.range c).map fun j => f i j
theorem mkB_row {r c i : Nat} {f : Nat → Nat → Str} (hi : i < r) : row (mkB r c f) i = (List.range c).map fun j => f i j := by
  unfold row mkB
  rw [List.getElem?_map, List.getElem?_range hi]
  rfl
theorem mkB_at {r c i j : Nat} {f : Nat → Nat → Str} (hi : i < r) (hj : j < c) : at_ (mkB r c f) i j = f i j := by
  unfold at_
  rw [mkB_row hi, List.getElem?_map, List.getElem?_range hj]
  rfl
/-- a grid of kinds and signs -/
structure GB (g : Brd) (r c : Nat) : Prop where
  wb : WB g
  len : g.length = r
  wid : wd g = c
  ks : ∀ q ∈ g, ∀ k ∈ q, k ∈ KH
theorem KB.gb {b : Brd} {r c : Nat} (h : KB b r c) : GB b r c := ⟨h.wb, h.len, h.wid, fun q hq k hk => KS_KH k (h.ks q hq k hk)⟩
theorem GB.pos {b : Brd} {r c : Nat} (h : GB b r c) : 0 < r ∧ 0 < c ∧ r ≤ 100 ∧ c ≤ 100 := by
  have := h.wb.rows; have := h.wb.cols; have := h.wb.few; have := h.wb.fewc; have := h.len; have := h.wid
  omega
theorem GB.at {g : Brd} {r c : Nat} (h : GB g r c) {i j : Nat} (hi : i < r) (hj : j < c) : at_ g i j ∈ KH := by
  have hl := h.len
  have hw := h.wid
  have hlr := len_row h.wb (r := i) (by omega)
  have e : at_ g i j = (row g i)[j] := by
    unfold at_
    rw [List.getElem?_eq_getElem (by omega)]
    rfl
  rw [e]
  exact h.ks _ (row_mem (by omega)) _ (List.getElem_mem _)
theorem gb_mk {r c : Nat} {f : Nat → Nat → Str} (h0 : 0 < r) (hc : 0 < c) (r100 : r ≤ 100) (c100 : c ≤ 100) (h : ∀ i, i < r → ∀ j, j < c → f i j ∈ KH) : GB (mkB r c f) r c := by
  have hl : (mkB r c f).length = r := by simp [mkB]
  have hw : ∀ q ∈ mkB r c f, q.length = c := fun q hq => by
    obtain ⟨i, hi, rfl⟩ := List.mem_map.mp hq
    simp
  have hwd : wd (mkB r c f) = c := hw _ (row_mem (by omega))
  refine ⟨⟨by omega, by omega, fun q hq => by rw [hwd]; exact hw q hq, by omega, by omega⟩, hl, hwd, fun q hq k hk => ?_⟩
  obtain ⟨i, hi, rfl⟩ := List.mem_map.mp hq
  obtain ⟨j, hj, rfl⟩ := List.mem_map.mp hk
  exact h i (by simpa using hi) j (by simpa using hj)
theorem kb_mk {r c : Nat} {f : Nat → Nat → Str} (h0 : 0 < r) (hc : 0 < c) (r100 : r ≤ 100) (c100 : c ≤ 100) (h : ∀ i, i < r → ∀ j, j < c → f i j ∈ KS) : KB (mkB r c f) r c := by
  refine kb_of h0 hc r100 c100 (by simp [mkB]) (fun q hq => ?_) (fun q hq k hk => ?_)
  · obtain ⟨i, hi, rfl⟩ := List.mem_map.mp hq
    simp
  · obtain ⟨i, hi, rfl⟩ := List.mem_map.mp hq
    obtain ⟨j, hj, rfl⟩ := List.mem_map.mp hk
    exact h i (by simpa using hi) j (by simpa using hj)
/-- a grid is what is told of its cells -/
theorem grid_eq {g : Brd} {r c : Nat} (h : GB g r c) : g = mkB r c fun i j => at_ g i j := by
  have hl := h.len
  have hw := h.wid
  apply List.ext_getElem?
  intro i
  by_cases hi : i < r
  · unfold mkB
    rw [List.getElem?_map, List.getElem?_range hi, List.getElem?_eq_getElem (by omega)]
    simp only [Option.map_some]
    congr 1
    have hlr : (g[i]'(by omega)).length = c := by rw [← hw]; exact h.wb.rect _ (List.getElem_mem _)
    apply List.ext_getElem?
    intro j
    by_cases hj : j < c
    · rw [List.getElem?_map, List.getElem?_range hj, List.getElem?_eq_getElem (by omega)]
      simp only [Option.map_some]
      unfold at_ row
      rw [List.getElem?_eq_getElem (show i < g.length by omega)]
      simp only [Option.getD_some]
      rw [List.getElem?_eq_getElem (by omega)]
      rfl
    · rw [List.getElem?_eq_none (by omega), List.getElem?_eq_none (by simp; omega)]
  · rw [List.getElem?_eq_none (by omega), List.getElem?_eq_none (by simp [mkB]; omega)]
theorem mk_eq {r c : Nat} {f f' : Nat → Nat → Str} (h : ∀ i, i < r → ∀ j, j < c → f i j = f' i j) : mkB r c f = mkB r c f' := by
  unfold mkB
  refine List.map_congr_left fun i hi => List.map_congr_left fun j hj => ?_
  exact h i (by simpa using hi) j (by simpa using hj)
/-- a quarter clockwise -/
def trn (g : Brd) : Brd := mkB (wd g) g.length fun i j => sgn (at_ g (g.length - 1 - j) i)
def mir (g : Brd) : Brd := mkB g.length (wd g) fun i j => sgn (at_ g i (wd g - 1 - j))
def trns : Nat → Brd → Brd
  | 0, g => g
  | m + 1, g => trns m (trn g)
section
variable {g : Brd} {r c : Nat} (W : GB g r c)
include W
theorem trn_GB : GB (trn g) c r := by
  obtain ⟨p1, p2, p3, p4⟩ := W.pos
  unfold trn
  rw [W.len, W.wid]
  exact gb_mk p2 p1 p4 p3 fun i hi j hj => sgn_KH _ (W.at (by omega) hi)
theorem trn_at {i j : Nat} (hi : i < c) (hj : j < r) : at_ (trn g) i j = sgn (at_ g (r - 1 - j) i) := by
  unfold trn
  rw [W.len, W.wid, mkB_at hi hj]
theorem mir_GB : GB (mir g) r c := by
  obtain ⟨p1, p2, p3, p4⟩ := W.pos
  unfold mir
  rw [W.len, W.wid]
  exact gb_mk p1 p2 p3 p4 fun i hi j hj => sgn_KH _ (W.at hi (by omega))
theorem mir_at {i j : Nat} (hi : i < r) (hj : j < c) : at_ (mir g) i j = sgn (at_ g i (c - 1 - j)) := by
  unfold mir
  rw [W.len, W.wid, mkB_at hi hj]
theorem trn2_at {i j : Nat} (hi : i < r) (hj : j < c) : at_ (trn (trn g)) i j = at_ g (r - 1 - i) (c - 1 - j) := by
  have W1 := trn_GB W
  rw [trn_at W1 hi hj, trn_at W (by omega) (by omega)]
  exact sgn_sgn _ (W.at (by omega) (by omega))
theorem trn4 : trn (trn (trn (trn g))) = g := by
  have W2 := trn_GB (trn_GB W)
  have W4 := trn_GB (trn_GB W2)
  refine (grid_eq W4).trans ((mk_eq fun i hi j hj => ?_).trans (grid_eq W).symm)
  rw [trn2_at W2 hi hj, trn2_at W (by omega) (by omega), show r - 1 - (r - 1 - i) = i by omega, show c - 1 - (c - 1 - j) = j by omega]
theorem mir2 : mir (mir g) = g := by
  have W1 := mir_GB W
  refine (grid_eq (mir_GB W1)).trans ((mk_eq fun i hi j hj => ?_).trans (grid_eq W).symm)
  rw [mir_at W1 hi hj, mir_at W hi (by omega), show c - 1 - (c - 1 - j) = j by omega]
  exact sgn_sgn _ (W.at hi hj)
theorem mir_trn : mir (trn g) = trn (trn (trn (mir g))) := by
  have W1 := trn_GB W
  have M := mir_GB W
  refine (grid_eq (mir_GB W1)).trans ((mk_eq fun i hi j hj => ?_).trans (grid_eq (trn_GB (trn_GB (trn_GB M)))).symm)
  rw [mir_at W1 hi hj, trn_at W hi (by omega), trn_at (trn_GB (trn_GB M)) hi hj, trn2_at M (by omega) hi, mir_at W (by omega) (by omega), show r - 1 - (r - 1 - j) = j by omega, show c - 1 - (c - 1 - i) = i by omega]
end
def eLs (q : List Str) : T := .lst (q.map T.str)
theorem lt_eLs {n : Nat} (q : List Str) : (eLs q).lt n = true := by
  show T.lts n (q.map T.str) = true
  exact lts_strs _ _
theorem lts_eLs {n : Nat} (g : Brd) : T.lts n (g.map eLs) = true := ltsM fun q _ => lt_eLs q
/-- rows of anything -/
structure Rw (V : T) (rv : Nat → T) (E : Nat → Nat → Str) (r c : Nat) : Prop where
  r0 : 0 < r
  c0 : 0 < c
  r1 : r ≤ 100
  c1 : c ≤ 100
  fz : fz V = V
  len : ∀ S, fLen [V] S = .ok (.int r) S
  ix : ∀ i, i < r → ∀ S, fIx V (.int i) S = .ok (rv i) S
  fr : ∀ i, Dn.fz (rv i) = rv i
  lenr : ∀ i, i < r → ∀ S, fLen [rv i] S = .ok (.int c) S
  cell : ∀ i, i < r → ∀ j, j < c → ∀ S, fIx (rv i) (.int j) S = .ok (.str (E i j)) S
  it : ∀ S, itOf S V = some (none, (List.range r).map rv)
theorem quarter_ok {V : T} {rv : Nat → T} {E : Nat → Nat → Str} {r c : Nat} {S : Sto} (h : Rw V rv E r c) : F_quarter_of [V] S = .ok (.nlst ((mkB c r fun j i => E (r - 1 - i) j).map eLs)) S := by
  obtain ⟨p1, p2, p3, p4, fV, hl, hi, hf, hlr, hc, _⟩ := h
  have hi0 : ∀ S, fIx V (.int 0) S = .ok (rv 0) S := fun S => hi 0 p1 S
  have hl0 := hlr 0 p1
  have f0 := hf 0
  let sh := fun (x2 x3 : Option T) => [some V, some (T.int c), x2, x3]
  have inner : ∀ j, j < c → C_quarter_of_0 (sh (some (.int (j : Nat))) none) S = .ok (.nlst (((List.range r).map fun i => E (r - 1 - i) j).map T.str)) S := by
    intro j hj
    unfold C_quarter_of_0
    rw [dLc_eq _ _ _ _ _ _ _ (dRng1_eq (S1 := S) (n := r) (by simp [sh, fV, hl]) (by omega))]
    rw [lcL_map still_none (fun k : Nat => T.int k) (fun _ => true) (fun i => T.str (E (r - 1 - i) j)) (List.range r) [] ?_ (by simp; omega)]
    · rw [List.nil_append, List.filter_eq_self.mpr (fun _ _ => rfl), List.map_map]
      rfl
    · intro i hir
      have hi' : i < r := by simpa using hir
      have e1 : ((r - 1 - i : Nat) : Int) = (r : Int) - 1 - i := by omega
      have a1 : ∀ S, fIx V (.int ((r : Int) - 1 - i)) S = .ok (rv (r - 1 - i)) S := fun S => by rw [← e1]; exact hi _ (by omega) S
      have a2 := fun S => hc (r - 1 - i) (by omega) j hj S
      have a3 := hf (r - 1 - i)
      refine ⟨sh (some (.int (j : Nat))) (some (.int (i : Nat))), by simp [sh, wipeT], rfl, fun _ => ⟨T.str (E (r - 1 - i) j), ?_, rfl⟩⟩
      simp [sh, fV, hl, a1, a3, a2]
  have outer : C_quarter_of_1 (sh none none) S = .ok (.nlst ((mkB c r fun j i => E (r - 1 - i) j).map eLs)) S := by
    unfold C_quarter_of_1
    rw [dLc_eq _ _ _ _ _ _ _ (dRng1_eq (S1 := S) (n := c) (by simp [sh]) (by omega))]
    rw [lcL_map still_none (fun k : Nat => T.int k) (fun _ => true) (fun j => eLs ((List.range r).map fun i => E (r - 1 - i) j)) (List.range c) [] ?_ (by simp; omega)]
    · rw [List.nil_append, List.filter_eq_self.mpr (fun _ _ => rfl)]
      unfold mkB
      rw [List.map_map]
      rfl
    · intro j hj
      exact ⟨sh (some (.int (j : Nat))) none, by simp [sh, wipeT], rfl, fun _ => ⟨_, inner j (by simpa using hj), rfl⟩⟩
  have hlt := fun n => lts_eLs (n := n) (mkB c r fun j i => E (r - 1 - i) j)
  generalize (mkB c r fun j i => E (r - 1 - i) j).map eLs = L at outer hlt ⊢
  simp only [sh] at outer
  simp [F_quarter_of, dFun_eq, b_quarter_of, fV, hi0, f0, hl0, outer]
  rw [gcT_same (by simp [hlt])]
theorem mirror_ok {V : T} {rv : Nat → T} {E : Nat → Nat → Str} {r c : Nat} {S : Sto} (h : Rw V rv E r c) : F_mirror_of [V] S = .ok (.nlst ((mkB r c fun i j => E i (c - 1 - j)).map eLs)) S := by
  obtain ⟨p1, p2, p3, p4, fV, hl, hi, hf, hlr, hc, hit⟩ := h
  let sh := fun (x1 x2 : Option T) => [some V, x1, x2]
  have inner : ∀ i, i < r → C_mirror_of_0 (sh (some (rv i)) none) S = .ok (.nlst (((List.range c).map fun j => E i (c - 1 - j)).map T.str)) S := by
    intro i hi'
    have f1 := hf i
    have l1 := hlr i hi'
    unfold C_mirror_of_0
    rw [dLc_eq _ _ _ _ _ _ _ (dRng1_eq (S1 := S) (n := c) (by simp [sh, f1, l1]) (by omega))]
    rw [lcL_map still_none (fun k : Nat => T.int k) (fun _ => true) (fun j => T.str (E i (c - 1 - j))) (List.range c) [] ?_ (by simp; omega)]
    · rw [List.nil_append, List.filter_eq_self.mpr (fun _ _ => rfl), List.map_map]
      rfl
    · intro j hj
      have hj' : j < c := by simpa using hj
      have e1 : ((c - 1 - j : Nat) : Int) = (c : Int) - 1 - j := by omega
      have a1 : ∀ S, fIx (rv i) (.int ((c : Int) - 1 - j)) S = .ok (.str (E i (c - 1 - j))) S := fun S => by rw [← e1]; exact hc i hi' _ (by omega) S
      refine ⟨sh (some (rv i)) (some (.int (j : Nat))), by simp [sh, wipeT], rfl, fun _ => ⟨T.str (E i (c - 1 - j)), ?_, rfl⟩⟩
      simp [sh, f1, l1, a1]
  have outer : C_mirror_of_1 (sh none none) S = .ok (.nlst ((mkB r c fun i j => E i (c - 1 - j)).map eLs)) S := by
    unfold C_mirror_of_1
    rw [dLc_eq _ _ _ _ _ _ _ (dIt_eq (S1 := S) (t := V) (src := none) (ts := (List.range r).map rv) (by simp [sh, fV]) (by rw [fV]; exact hit S))]
    rw [lcL_map still_none rv (fun _ => true) (fun i => eLs ((List.range c).map fun j => E i (c - 1 - j))) (List.range r) [] ?_ (by simp; omega)]
    · rw [List.nil_append, List.filter_eq_self.mpr (fun _ _ => rfl)]
      unfold mkB
      rw [List.map_map]
      rfl
    · intro i hi
      exact ⟨sh (some (rv i)) none, by simp [sh, wipeT], rfl, fun _ => ⟨_, inner i (by simpa using hi), rfl⟩⟩
  have hlt := fun n => lts_eLs (n := n) (mkB r c fun i j => E i (c - 1 - j))
  generalize (mkB r c fun i j => E i (c - 1 - j)).map eLs = L at outer hlt ⊢
  simp only [sh] at outer
  simp [F_mirror_of, dFun_eq, b_mirror_of, fV, outer]
  rw [gcT_same (by simp [hlt])]
theorem as_board_ok {g : Brd} {S : Sto} (hl : g.length ≤ 100) (hr : ∀ q ∈ g, q.length ≤ 100 ∧ ∀ k ∈ q, k ∈ KS) : F_as_board [.lst (g.map eLs)] S = .ok (eB (g.map fun q => q.map sgn)) S := by
  let sh := fun (x1 x2 : Option T) => [some (T.lst (g.map eLs)), x1, x2]
  have inner : ∀ q ∈ g, C_as_board_0 (sh (some (eLs q)) none) S = .ok (.nlst ((q.map sgn).map T.str)) S := by
    intro q hq
    obtain ⟨h1, h2⟩ := hr q hq
    unfold C_as_board_0
    rw [dLc_eq _ _ _ _ _ _ _ (dIt_eq (S1 := S) (t := eLs q) (src := none) (ts := q.map T.str) (by simp [sh]) rfl)]
    rw [lcL_map still_none T.str (fun _ => true) (fun k => T.str (sgn k)) q [] ?_ (by simp; omega)]
    · rw [List.nil_append, List.filter_eq_self.mpr (fun _ _ => rfl), List.map_map]
      rfl
    · intro k hk
      exact ⟨sh (some (eLs q)) (some (.str k)), by simp [sh, wipeT], rfl, fun _ => ⟨T.str (sgn k), by simp [sh, exch_kind_ok (h2 k hk)], rfl⟩⟩
  have outer : C_as_board_1 (sh none none) S = .ok (.nlst ((g.map fun q => q.map sgn).map eR)) S := by
    unfold C_as_board_1
    rw [dLc_eq _ _ _ _ _ _ _ (dIt_eq (S1 := S) (t := .lst (g.map eLs)) (src := none) (ts := g.map eLs) (by simp [sh]) rfl)]
    rw [lcL_map still_none eLs (fun _ => true) (fun q => eR (q.map sgn)) g [] ?_ (by simp; omega)]
    · rw [List.nil_append, List.filter_eq_self.mpr (fun _ _ => rfl), List.map_map]
      rfl
    · intro q hq
      refine ⟨sh (some (eLs q)) none, by simp [sh, wipeT], rfl, fun _ => ⟨eR (q.map sgn), ?_, rfl⟩⟩
      simp only [dCall_eq, dCons_eq, inner q hq, dNil_eq, RE.consA_ok, RA.cons_ok, RA.bind_ok, fz_nlst, fTuple_lst]
      rfl
  simp only [sh] at outer
  have fl : fz (.lst (g.map eLs)) = .lst (g.map eLs) := rfl
  generalize g.map eLs = L at outer fl ⊢
  have hR : T.tup ((g.map fun q => q.map sgn).map eR) = eB (g.map fun q => q.map sgn) := rfl
  generalize (g.map fun q => q.map sgn) = M at outer hR ⊢
  simp only [F_as_board, dFun_eq (np := 1) (n := 3) (ts := [.lst L]) rfl, b_as_board]
  simp [outer, hR]
  rw [gcT_same (by simp)]
theorem rw_board {b : Brd} {r c : Nat} (W : GB b r c) : Rw (eB b) (fun i => eR (row b i)) (at_ b) r c := by
  obtain ⟨p1, p2, p3, p4⟩ := W.pos
  have hl := W.len
  have hw := W.wid
  refine ⟨p1, p2, p3, p4, rfl, fun S => ?_, fun i hi S => ix_row W.wb (by omega), fun _ => rfl, fun i hi S => ?_, fun i hi j hj S => ix_cell W.wb (by omega) (by omega), fun S => ?_⟩
  · have : r ≤ 16777216 := by omega
    simp [hl]
    try omega
  · have : c ≤ 16777216 := by omega
    simp [len_row W.wb (r := i) (by omega), hw, this]
  · have e : b.map eR = (List.range r).map fun i => eR (row b i) := by
      apply List.ext_getElem?
      intro i
      by_cases hi : i < r
      · rw [List.getElem?_map, List.getElem?_map, List.getElem?_range hi, List.getElem?_eq_getElem (by omega)]
        unfold row
        simp only [Option.map_some]
        rw [List.getElem?_eq_getElem (show i < b.length by omega)]
        rfl
      · rw [List.getElem?_eq_none (by simp; omega), List.getElem?_eq_none (by simp; omega)]
    rw [← e]
    rfl
theorem trn_map {b : Brd} {r c : Nat} (W : GB b r c) : (mkB c r fun j i => at_ b (r - 1 - i) j).map (fun q => q.map sgn) = trn b := by
  unfold trn mkB
  rw [W.len, W.wid, List.map_map]
  refine List.map_congr_left fun j _ => ?_
  simp
theorem mir_map {b : Brd} {r c : Nat} (W : GB b r c) : (mkB r c fun i j => at_ b i (c - 1 - j)).map (fun q => q.map sgn) = mir b := by
  unfold mir mkB
  rw [W.len, W.wid, List.map_map]
  refine List.map_congr_left fun j _ => ?_
  simp
theorem trn_KB {b : Brd} {r c : Nat} (W : KB b r c) : KB (trn b) c r := by
  obtain ⟨p1, p2, p3, p4⟩ := W.pos
  unfold trn
  rw [W.len, W.wid]
  exact kb_mk p2 p1 p4 p3 fun i hi j hj => sgn_KS _ (at_KS W (by rw [W.len]; omega) (by rw [W.wid]; exact hi))
theorem mir_KB {b : Brd} {r c : Nat} (W : KB b r c) : KB (mir b) r c := by
  obtain ⟨p1, p2, p3, p4⟩ := W.pos
  unfold mir
  rw [W.len, W.wid]
  exact kb_mk p1 p2 p3 p4 fun i hi j hj => sgn_KS _ (at_KS W (by rw [W.len]; omega) (by rw [W.wid]; omega))
theorem turn1_ok {b : Brd} {r c : Nat} {S : Sto} (W : KB b r c) {x1 x2 : Option T} : L_turned_board_0 [some (eB b), x1, x2] S = .nx [some (eB (trn b)), x1, x2] S := by
  obtain ⟨p1, p2, p3, p4⟩ := W.pos
  have q := quarter_ok (S := S) (rw_board W.gb)
  have a := as_board_ok (S := S) (g := mkB c r fun j i => at_ b (r - 1 - i) j) (by simp [mkB]; omega) (fun q hq => by
    obtain ⟨j, hj, rfl⟩ := List.mem_map.mp hq
    refine ⟨by simp; omega, fun k hk => ?_⟩
    obtain ⟨i, hi, rfl⟩ := List.mem_map.mp hk
    exact at_KS W (by rw [W.len]; have : i < r := by simpa using hi
                      omega) (by rw [W.wid]; simpa using hj))
  rw [trn_map W.gb] at a
  generalize (mkB c r fun j i => at_ b (r - 1 - i) j).map eLs = L at q a
  simp [L_turned_board_0, q, a]
theorem trns_KB {b : Brd} : ∀ {m r c : Nat}, KB b r c → ∃ r' c', KB (trns m b) r' c'
  | 0, r, c, W => ⟨r, c, W⟩
  | m + 1, r, c, W => trns_KB (m := m) (trn_KB W)
theorem turned_board_ok {b : Brd} {r c : Nat} {S : Sto} (W : KB b r c) {q : Int} : F_turned_board [eB b, .int q] S = .ok (eB (trns (q % 4).toNat b)) S := by
  have hq : 0 ≤ q % 4 := Int.emod_nonneg _ (by omega)
  have hq4 : q % 4 < 4 := Int.emod_lt_of_pos _ (by omega)
  obtain ⟨m, hm⟩ := Int.eq_ofNat_of_zero_le hq
  have hm4 : m < 4 := by omega
  let sh := fun (b : Brd) (x2 : Option T) => [some (eB b), some (T.int q), x2]
  have hd := dFor_eq (dRng1 (dCons (dBin (fInt (fun _ j => 0 < j) (· % ·)) (dVar 1) (dC (.int 4))) dNil)) (gN 2) L_turned_board_0 (sh b none) S (dRng1_eq (n := m) (S1 := S) (by simp [sh, hm]) (by omega))
  have key : ∀ (all : List T) (xs : List Nat) (b : Brd) (r c : Nat) (x2 : Option T), KB b r c → ∃ y2, forL none all (gN 2) L_turned_board_0 (xs.map fun k => T.int (k : Nat)) (sh b x2) S = .nx (sh (trns xs.length b) y2) S := by
    intro all xs
    induction xs with
    | nil => intro b r c x2 W; exact ⟨x2, by rw [List.map_nil, forL, if_pos (show Still none all S from trivial)]; rfl⟩
    | cons k xs ih =>
      intro b r c x2 W
      obtain ⟨y2, h⟩ := ih (trn b) c r (some (.int (k : Nat))) (trn_KB W)
      refine ⟨y2, ?_⟩
      rw [List.map_cons, forL, if_pos (show Still none all S from trivial), gN_eq]
      simp only [sh, List.set_cons_zero, List.set_cons_succ, turn1_ok W]
      exact h
  obtain ⟨y2, hk⟩ := key ((List.range m).map fun k => T.int (k : Nat)) (List.range m) b r c none W
  rw [List.length_range] at hk
  have e : (q % 4).toNat = m := by omega
  rw [e]
  unfold F_turned_board
  rw [dFun_eq (np := 2) (n := 3) (ts := [eB b, .int q]) rfl]
  show gcR S (b_turned_board (sh b none) S) = _
  unfold b_turned_board
  rw [dSeq_eq, hd, hk, RS.seq_nx]
  simp [sh]
  rw [gcT_same (by simp)]
theorem mirrored_board_ok {b : Brd} {r c : Nat} {S : Sto} (W : KB b r c) : F_mirrored_board [eB b] S = .ok (eB (mir b)) S := by
  obtain ⟨p1, p2, p3, p4⟩ := W.pos
  have q := mirror_ok (S := S) (rw_board W.gb)
  have a := as_board_ok (S := S) (g := mkB r c fun i j => at_ b i (c - 1 - j)) (by simp [mkB]; omega) (fun q hq => by
    obtain ⟨j, hj, rfl⟩ := List.mem_map.mp hq
    refine ⟨by simp; omega, fun k hk => ?_⟩
    obtain ⟨i, hi, rfl⟩ := List.mem_map.mp hk
    exact at_KS W (by rw [W.len]; simpa using hj) (by rw [W.wid]; have : i < c := by simpa using hi
                                                      omega))
  rw [mir_map W.gb] at a
  generalize (mkB r c fun i j => at_ b i (c - 1 - j)).map eLs = L at q a
  simp [F_mirrored_board, dFun_eq, b_mirrored_board, q, a]
  rw [gcT_same (by simp)]
end Bd

/-! the eight boards, the least of them -/
namespace Bd
open PySem PySem.Spec L2 Dn Pk
def e8 (b : Brd) : List Brd := [b, trn b, trn (trn b), trn (trn (trn b)), mir b, trn (mir b), trn (trn (mir b)), trn (trn (trn (mir b)))]
section
variable {b : Brd} {r c : Nat} (W : GB b r c)
include W
theorem e8_trn : ∀ x ∈ e8 b, trn x ∈ e8 b := by
  intro x hx
  have h4 := trn4 W
  have h5 := trn4 (mir_GB W)
  simp only [e8, List.mem_cons, List.not_mem_nil, or_false] at hx ⊢
  rcases hx with rfl | rfl | rfl | rfl | rfl | rfl | rfl | rfl <;> simp [h4, h5]
theorem e8_mir : ∀ x ∈ e8 b, mir x ∈ e8 b := by
  intro x hx
  have M := mir_GB W
  have h4 := trn4 W
  have h5 := trn4 M
  have m2 := mir2 W
  have f0 := mir_trn W
  have f1 := mir_trn (trn_GB W)
  have f2 := mir_trn (trn_GB (trn_GB W))
  have g0 := mir_trn M
  have g1 := mir_trn (trn_GB M)
  have g2 := mir_trn (trn_GB (trn_GB M))
  simp only [e8, List.mem_cons, List.not_mem_nil, or_false] at hx ⊢
  rcases hx with rfl | rfl | rfl | rfl | rfl | rfl | rfl | rfl <;> simp [f0, f1, f2, g0, g1, g2, h4, h5, m2]
theorem e8_sub : ∀ x ∈ e8 b, ∀ y ∈ e8 x, y ∈ e8 b := by
  intro x hx y hy
  have m := e8_mir W x hx
  have t := e8_trn W
  simp only [e8, List.mem_cons, List.not_mem_nil, or_false] at hy
  rcases hy with rfl | rfl | rfl | rfl | rfl | rfl | rfl | rfl
  · exact hx
  · exact t _ hx
  · exact t _ (t _ hx)
  · exact t _ (t _ (t _ hx))
  · exact m
  · exact t _ m
  · exact t _ (t _ m)
  · exact t _ (t _ (t _ m))
theorem e8_back : ∀ x ∈ e8 b, b ∈ e8 x := by
  intro x hx
  have M := mir_GB W
  have h4 := trn4 W
  have h5 := trn4 M
  have m2 := mir2 W
  have g0 := mir_trn M
  have g1 := mir_trn (trn_GB M)
  have g2 := mir_trn (trn_GB (trn_GB M))
  simp only [e8, List.mem_cons, List.not_mem_nil, or_false] at hx ⊢
  rcases hx with rfl | rfl | rfl | rfl | rfl | rfl | rfl | rfl <;> simp [g0, g1, g2, h4, h5, m2]
theorem e8_GB : ∀ x ∈ e8 b, ∃ r' c', GB x r' c' := by
  intro x hx
  have M := mir_GB W
  simp only [e8, List.mem_cons, List.not_mem_nil, or_false] at hx
  rcases hx with rfl | rfl | rfl | rfl | rfl | rfl | rfl | rfl
  · exact ⟨_, _, W⟩
  · exact ⟨_, _, trn_GB W⟩
  · exact ⟨_, _, trn_GB (trn_GB W)⟩
  · exact ⟨_, _, trn_GB (trn_GB (trn_GB W))⟩
  · exact ⟨_, _, M⟩
  · exact ⟨_, _, trn_GB M⟩
  · exact ⟨_, _, trn_GB (trn_GB M)⟩
  · exact ⟨_, _, trn_GB (trn_GB (trn_GB M))⟩
end
/-! ### the order of boards -/
def bLt (a b : Brd) : Bool := PySem.W.dataLt (eB a).dat (eB b).dat
theorem alk_row : ∀ p q : List Str, PySem.W.alikeAll (T.dats (p.map T.str)) (T.dats (q.map T.str)) = true
  | [], _ => by simp [T.dats, PySem.W.alikeAll]
  | _ :: _, [] => by simp [T.dats, PySem.W.alikeAll]
  | x :: p, y :: q => by
    have := alk_row p q
    simp [T.dats, T.dat, PySem.W.alikeAll, PySem.W.alike, this]
theorem alk_rows : ∀ a b : Brd, PySem.W.alikeAll (T.dats (a.map eR)) (T.dats (b.map eR)) = true
  | [], _ => by simp [T.dats, PySem.W.alikeAll]
  | _ :: _, [] => by simp [T.dats, PySem.W.alikeAll]
  | x :: p, y :: q => by
    have h := alk_rows p q
    have h2 := alk_row x y
    simp [T.dats, T.dat, eR, PySem.W.alikeAll, PySem.W.alike, h, h2]
theorem alk_B (a b : Brd) : PySem.W.alike (eB a).dat (eB b).dat = true := by
  have := alk_rows a b
  simpa [eB, T.dat, PySem.W.alike] using this
theorem eqv_row : ∀ p q : List Str, PyData.eqvAll (T.dats (p.map T.str)) (T.dats (q.map T.str)) = decide (p = q)
  | [], [] => by simp [T.dats, PyData.eqvAll]
  | [], _ :: _ => by simp [T.dats, PyData.eqvAll]
  | _ :: _, [] => by simp [T.dats, PyData.eqvAll]
  | x :: p, y :: q => by
    have := eqv_row p q
    have e : PyData.eqv (.str x) (.str y) = decide (x = y) := by
      by_cases h : x = y
      · subst h; simp [PyData.eqv]
      · simp [PyData.eqv, h]
    simp only [List.map_cons, T.dats, T.dat, PyData.eqvAll, this, e]
    by_cases h : x = y <;> simp [h]
theorem eqv_rows : ∀ a b : Brd, PyData.eqvAll (T.dats (a.map eR)) (T.dats (b.map eR)) = decide (a = b)
  | [], [] => by simp [T.dats, PyData.eqvAll]
  | [], _ :: _ => by simp [T.dats, PyData.eqvAll]
  | _ :: _, [] => by simp [T.dats, PyData.eqvAll]
  | x :: p, y :: q => by
    have := eqv_rows p q
    have e : PyData.eqv (eR x).dat (eR y).dat = decide (x = y) := by
      have := eqv_row x y
      simpa [eR, T.dat, PyData.eqv] using this
    simp only [List.map_cons, T.dats, PyData.eqvAll, this, e]
    by_cases h : x = y <;> simp [h]
theorem eqv_B (a b : Brd) : PyData.eqv (eB a).dat (eB b).dat = decide (a = b) := by
  have := eqv_rows a b
  simpa [eB, T.dat, PyData.eqv] using this
theorem bLt_irr (a : Brd) : bLt a a = false := PySem.W.dataLt_self _
theorem bLt_trans {a b d : Brd} (h : bLt a b = true) (k : bLt b d = true) : bLt a d = true := PyProof.Rows.lex_trans _ _ _ h k
theorem bLt_total {a b : Brd} (h : bLt a b = false) (k : bLt b a = false) : a = b := by
  have e : PySem.W.keyToks (eB a).dat = PySem.W.keyToks (eB b).dat := PyProof.Rows.lex_total _ _ h k
  have t := (PySem.W.toks_eqv (eB a).dat (eB b).dat (alk_B a b)).2
  rw [eqv_B] at t
  by_cases hab : a = b
  · exact hab
  · have := t (decide_eq_false hab) [] [.inl 0]
    have h1 := PySem.W.lex_pre (PySem.W.keyToks (eB b).dat) [] [.inl 0]
    rw [e, h1, PyProof.Rows.lex_irrefl] at this
    cases this
/-- the least, as a loop finds it -/
def lstB (a : Brd) (l : List Brd) : Brd := l.foldl (fun a y => if bLt y a = true then y else a) a
theorem lst_dat : ∀ (l : List Brd) (a : Brd), (eB (lstB a l)).dat = PySem.W.minD (eB a).dat (T.dats (l.map eB))
  | [], a => rfl
  | y :: l, a => by
    have h := lst_dat l (if bLt y a = true then y else a)
    have e1 : lstB a (y :: l) = lstB (if bLt y a = true then y else a) l := rfl
    have e2 : PySem.W.minD (eB a).dat (T.dats ((y :: l).map eB)) = PySem.W.minD (if PySem.W.dataLt (eB y).dat (eB a).dat = true then (eB y).dat else (eB a).dat) (T.dats (l.map eB)) := rfl
    rw [e1, e2, h]
    congr 1
    unfold bLt
    split <;> rfl
theorem lst_fact : ∀ (l : List Brd) (a : Brd), (lstB a l = a ∨ bLt (lstB a l) a = true) ∧ (∀ y ∈ l, bLt y (lstB a l) = false) ∧ lstB a l ∈ a :: l
  | [], a => ⟨.inl rfl, by simp, by simp [lstB]⟩
  | y :: l, a => by
    obtain ⟨h1, h2, h3⟩ := lst_fact l (if bLt y a = true then y else a)
    have e1 : lstB a (y :: l) = lstB (if bLt y a = true then y else a) l := rfl
    rw [e1]
    generalize lstB (if bLt y a = true then y else a) l = r at h1 h2 h3 ⊢
    by_cases c : bLt y a = true
    · rw [if_pos c] at h1 h3
      refine ⟨?_, fun z hz => ?_, ?_⟩
      · rcases h1 with h1 | h1
        · rw [h1]; exact .inr c
        · exact .inr (bLt_trans h1 c)
      · rcases List.mem_cons.mp hz with rfl | hz
        · rcases h1 with h1 | h1
          · rw [h1]; exact bLt_irr _
          · cases e : bLt z r with
            | false => rfl
            | true => have := bLt_trans e h1; rw [bLt_irr] at this; cases this
        · exact h2 z hz
      · rcases List.mem_cons.mp h3 with h3 | h3
        · rw [h3]; simp
        · simp [h3]
    · rw [if_neg c] at h1 h3
      rw [Bool.not_eq_true] at c
      refine ⟨h1, fun z hz => ?_, ?_⟩
      · rcases List.mem_cons.mp hz with rfl | hz
        · rcases h1 with h1 | h1
          · rw [h1]; exact c
          · cases e : bLt z r with
            | false => rfl
            | true => have := bLt_trans e h1; rw [c] at this; cases this
        · exact h2 z hz
      · rcases List.mem_cons.mp h3 with h3 | h3
        · rw [h3]; simp
        · simp [h3]
theorem lst_min {l : List Brd} {a : Brd} : ∀ y ∈ a :: l, bLt y (lstB a l) = false := by
  obtain ⟨h1, h2, _⟩ := lst_fact l a
  intro y hy
  rcases List.mem_cons.mp hy with rfl | hy
  · rcases h1 with h1 | h1
    · rw [h1]; exact bLt_irr _
    · cases e : bLt y (lstB y l) with
      | false => rfl
      | true => have := bLt_trans e h1; rw [bLt_irr] at this; cases this
  · exact h2 y hy
theorem lst_same {l l' : List Brd} {a a' : Brd} (h : ∀ x ∈ a :: l, x ∈ a' :: l') (k : ∀ x ∈ a' :: l', x ∈ a :: l) : lstB a l = lstB a' l' :=
  bLt_total (lst_min _ (h _ (lst_fact l a).2.2)) (lst_min _ (k _ (lst_fact l' a').2.2))
/-- the least of the eight -/
def lf (b : Brd) : Brd := lstB b (e8 b).tail
theorem lf_mem (b : Brd) : lf b ∈ e8 b := (lst_fact (e8 b).tail b).2.2
theorem alike_iff {a b : Brd} {r c r' c' : Nat} (W : GB a r c) (W' : GB b r' c') : lf a = lf b ↔ b ∈ e8 a := by
  constructor
  · intro h
    have h1 := lf_mem a
    have h2 := lf_mem b
    rw [← h] at h2
    exact e8_sub W _ h1 _ (e8_back W' _ h2)
  · intro h
    refine lst_same (a := a) (l := (e8 a).tail) (a' := b) (l' := (e8 b).tail) (fun x hx => ?_) (fun x hx => ?_)
    · exact e8_sub W' _ (e8_back W _ h) x hx
    · exact e8_sub W _ h x hx
end Bd

/-! the eight boards, likeness, the least: the program's -/
namespace Bd
open PySem PySem.Spec L2 Dn Pk
/-! ### boards as data -/
theorem lay_rows : ∀ b : Brd, (∀ q ∈ b, ∀ k ∈ q, k ∈ KS) → PyData.canLayAll0 (T.dats (b.map eR)) = true ∧ PyData.depthAll (T.dats (b.map eR)) ≤ 2
  | [], _ => by simp [T.dats, PyData.canLayAll0, PyData.depthAll]
  | q :: b, h => by
    obtain ⟨h1, h2⟩ := lay_rows b fun p hp => h p (List.mem_cons_of_mem _ hp)
    obtain ⟨l1, l2⟩ := lay_strs q fun k hk => KS_ok k (h q List.mem_cons_self k hk)
    constructor
    · simp [T.dats, T.dat, eR, PyData.canLayAll0, PyData.canLay0, h1, l1]
    · simp only [List.map_cons, T.dats, PyData.depthAll, T.dat, eR, PyData.depth]
      have : PyData.depthAll (T.dats (b.map eR)) ≤ 2 := h2
      omega
theorem lay_brds : ∀ l : List Brd, (∀ b ∈ l, ∀ q ∈ b, ∀ k ∈ q, k ∈ KS) → PyData.canLayAll0 (T.dats (l.map eB)) = true ∧ PyData.depthAll (T.dats (l.map eB)) ≤ 3
  | [], _ => by simp [T.dats, PyData.canLayAll0, PyData.depthAll]
  | b :: l, h => by
    obtain ⟨h1, h2⟩ := lay_brds l fun p hp => h p (List.mem_cons_of_mem _ hp)
    obtain ⟨l1, l2⟩ := lay_rows b (h b List.mem_cons_self)
    constructor
    · simp [T.dats, T.dat, eB, PyData.canLayAll0, PyData.canLay0, h1, l1]
    · simp only [List.map_cons, T.dats, PyData.depthAll, T.dat, eB, PyData.depth]
      have : PyData.depthAll (T.dats (l.map eB)) ≤ 3 := h2
      omega
def KK (b : Brd) : Prop := ∀ q ∈ b, ∀ k ∈ q, k ∈ KS
theorem fit_B {b : Brd} (h : KK b) : fit (eB b).dat = true ∧ (eB b).dat.depth ≤ 3 := by
  obtain ⟨l1, l2⟩ := lay_rows b h
  constructor
  · simp [fit, SeqAt.shaped, T.dat, eB, PyData.canLay0, PyData.depth, l1]
    omega
  · simp only [T.dat, eB, PyData.depth]
    omega
theorem fEq_B {n : Bool} {a b : Brd} (ha : KK a) (hb : KK b) {S : Sto} : fEq n (eB a) (eB b) S = .ok (.bl (if n then !decide (a = b) else decide (a = b))) S := by
  have h1 := (fit_B ha).1
  have h2 := (fit_B hb).1
  have h3 := eqv_B a b
  unfold eB at h1 h2 h3 ⊢
  rw [fEq_tup, h1, h2, h3]
  rfl
theorem fLT_B {a b : Brd} (ha : KK a) (hb : KK b) {S : Sto} : fLTD (eB a) (eB b) S = .ok (.bl (bLt a b)) S := by
  have h1 := fit_B ha
  have h2 := fit_B hb
  have h3 := alk_B a b
  have e : fLTD (eB a) (eB b) S = (if fit (dato S (eB a)) && (fit (dato S (eB b)) && (PySem.W.alike (dato S (eB a)) (dato S (eB b)) && decide ((dato S (eB a)).depth ≤ 60))) then .ok (.bl (PySem.W.dataLt (dato S (eB a)) (dato S (eB b)))) S else .bad) := rfl
  have d : ∀ x : Brd, dato S (eB x) = (eB x).dat := fun _ => rfl
  rw [e, d, d, h1.1, h2.1, h3, decide_eq_true (by omega)]
  rfl
theorem dat_inj {a b : Brd} (h : (eB a).dat = (eB b).dat) : a = b := by
  have := eqv_B a b
  rw [h, eqv_B] at this
  simpa using this
/-! ### the eight -/
def g8 (a : Brd) (i : Nat) : Brd := (e8 a)[i]?.getD a
def wyT (i : Nat) : T := .ktup [.bl (decide (3 < i)), .int ((i % 4 : Nat))]
theorem ways_eq : c_WAYS = .ktup ((List.range 8).map wyT) := rfl
theorem e8_g8 (a : Brd) : (List.range 8).map (g8 a) = e8 a := rfl
section
variable {b : Brd} {r c : Nat} {S : Sto} (W : KB b r c)
include W
theorem e8_KB : ∀ x ∈ e8 b, ∃ r' c', KB x r' c' := by
  intro x hx
  have M := mir_KB W
  simp only [e8, List.mem_cons, List.not_mem_nil, or_false] at hx
  rcases hx with rfl | rfl | rfl | rfl | rfl | rfl | rfl | rfl
  · exact ⟨_, _, W⟩
  · exact ⟨_, _, trn_KB W⟩
  · exact ⟨_, _, trn_KB (trn_KB W)⟩
  · exact ⟨_, _, trn_KB (trn_KB (trn_KB W))⟩
  · exact ⟨_, _, M⟩
  · exact ⟨_, _, trn_KB M⟩
  · exact ⟨_, _, trn_KB (trn_KB M)⟩
  · exact ⟨_, _, trn_KB (trn_KB (trn_KB M))⟩
theorem e8_KK : ∀ x ∈ e8 b, KK x := fun x hx => by
  obtain ⟨r', c', h⟩ := e8_KB W x hx
  exact h.ks
theorem moved_ok {i : Nat} (hi : i < 8) : F_moved_board [eB b, .bl (decide (3 < i)), .int ((i % 4 : Nat))] S = .ok (eB (g8 b i)) S := by
  have m1 := mirrored_board_ok (S := S) W
  have M := mir_KB W
  have t1 := fun q : Nat => turned_board_ok (S := S) W (q := (q : Int))
  have t2 := fun q : Nat => turned_board_ok (S := S) M (q := (q : Int))
  have cases8 : i = 0 ∨ i = 1 ∨ i = 2 ∨ i = 3 ∨ i = 4 ∨ i = 5 ∨ i = 6 ∨ i = 7 := by omega
  have a0 := t1 0
  have a1 := t1 1
  have a2 := t1 2
  have a3 := t1 3
  have b0 := t2 0
  have b1 := t2 1
  have b2 := t2 2
  have b3 := t2 3
  rcases cases8 with rfl | rfl | rfl | rfl | rfl | rfl | rfl | rfl
  · have e : F_turned_board [eB b, .int 0] S = .ok (eB (g8 b 0)) S := a0
    simp [F_moved_board, dFun_eq, b_moved_board, e]
    rw [gcT_same (by simp)]
  · have e : F_turned_board [eB b, .int 1] S = .ok (eB (g8 b 1)) S := a1
    simp [F_moved_board, dFun_eq, b_moved_board, e]
    rw [gcT_same (by simp)]
  · have e : F_turned_board [eB b, .int 2] S = .ok (eB (g8 b 2)) S := a2
    simp [F_moved_board, dFun_eq, b_moved_board, e]
    rw [gcT_same (by simp)]
  · have e : F_turned_board [eB b, .int 3] S = .ok (eB (g8 b 3)) S := a3
    simp [F_moved_board, dFun_eq, b_moved_board, e]
    rw [gcT_same (by simp)]
  · have e : F_turned_board [eB (mir b), .int 0] S = .ok (eB (g8 b 4)) S := b0
    simp [F_moved_board, dFun_eq, b_moved_board, m1, e]
    rw [gcT_same (by simp)]
  · have e : F_turned_board [eB (mir b), .int 1] S = .ok (eB (g8 b 5)) S := b1
    simp [F_moved_board, dFun_eq, b_moved_board, m1, e]
    rw [gcT_same (by simp)]
  · have e : F_turned_board [eB (mir b), .int 2] S = .ok (eB (g8 b 6)) S := b2
    simp [F_moved_board, dFun_eq, b_moved_board, m1, e]
    rw [gcT_same (by simp)]
  · have e : F_turned_board [eB (mir b), .int 3] S = .ok (eB (g8 b 7)) S := b3
    simp [F_moved_board, dFun_eq, b_moved_board, m1, e]
    rw [gcT_same (by simp)]
theorem lts_eB {n : Nat} {l : List Brd} : T.lts n (l.map eB) = true := ltsM fun _ _ => by simp
omit W in
theorem lt_tup {n : Nat} {ts : List T} (h : T.lts n ts = true) : (T.tup ts).lt n = true := by simpa using h
theorem eight_boards_ok : F_eight_boards [eB b] S = .ok (.tup ((e8 b).map eB)) S := by
  have hC : C_eight_boards_0 [some (eB b), none, none] S = .ok (.nlst ((e8 b).map eB)) S := by
    unfold C_eight_boards_0
    rw [dLc_eq _ _ _ _ _ _ _ (dIt_eq (S1 := S) (t := c_WAYS) (src := none) (ts := (List.range 8).map wyT) (by simp) (by rw [ways_eq]; rfl))]
    rw [lcL_map (S := S) (src := none) trivial wyT (fun _ => true) (fun i => eB (g8 b i)) (List.range 8) [] ?_ (by rw [PySem.sizeLine_eq]; simp)]
    · rw [List.nil_append, List.filter_eq_self.mpr (fun _ _ => rfl), ← e8_g8 b, List.map_map]
      rfl
    · intro i hi
      have hi' : i < 8 := by simpa using hi
      have m := moved_ok (S := S) W hi'
      refine ⟨[some (eB b), some (.bl (decide (3 < i))), some (.int ((i % 4 : Nat)))], by simp [wipeT, wyT], rfl, fun _ => ⟨eB (g8 b i), ?_, rfl⟩⟩
      simp only [dOwn_eq, dCons_eq, dVar_eq, dNil_eq, List.getElem?_cons_zero, List.getElem?_cons_succ, varR_some, RE.consA_ok, RA.cons_ok, RA.bind_ok, fz_eB, fz_bl, fz_int]
      exact m
  have hlt : T.lts S.length ((e8 b).map eB) = true := lts_eB W
  generalize (e8 b).map eB = G at hC hlt ⊢
  unfold F_eight_boards
  rw [dFun_eq (np := 1) (n := 3) (ts := [eB b]) rfl]
  show gcR S (b_eight_boards [some (eB b), none, none] S) = _
  have : b_eight_boards [some (eB b), none, none] S = .rt (.tup G) S := by
    unfold b_eight_boards
    simp [hC]
  rw [this, gcR_rt, gcT_same (lt_tup hlt)]
omit W in
theorem count_B (b : Brd) : ∀ l : List Brd, ((T.dats (l.map eB)).countP fun z => PyData.eqv z (eB b).dat) = l.countP fun x => decide (x = b)
  | [] => by simp [T.dats]
  | x :: l => by
    rw [List.map_cons, T.dats, List.countP_cons, List.countP_cons, count_B b l, eqv_B]
theorem symmetry_ok : F_symmetry_count [eB b] S = .ok (.int (((e8 b).countP fun x => decide (x = b) : Nat))) S := by
  have e := eight_boards_ok (S := S) W
  have hk := e8_KK W
  obtain ⟨l1, l2⟩ := lay_brds (e8 b) hk
  have f1 : fit (.list (T.dats ((e8 b).map eB))) = true := by
    simp [fit, SeqAt.shaped, PyData.canLay0, PyData.depth, l1]
    omega
  have f2 : fit (dato S (eB b)) = true := (fit_B W.ks).1
  have cb := count_B b (e8 b)
  have h : dCountT (dOwn 1 F_eight_boards (dCons (dVar 0) dNil)) (dCons (dVar 0) dNil) [some (eB b)] S = .ok (.int (((e8 b).countP fun x => decide (x = b) : Nat))) S := by
    have e1 : (dOwn 1 F_eight_boards (dCons (dVar 0) dNil)) [some (eB b)] S = .ok (.tup ((e8 b).map eB)) S := by simp [e]
    have e2 : (dCons (dVar 0) dNil) [some (eB b)] S = .ok [eB b] S := by simp
    unfold dCountT
    rw [e1, RE.bind_ok]
    show ((dCons (dVar 0) dNil) [some (eB b)] S).bind (fun ts S2 => fCountT ((e8 b).map eB) ts S2) = _
    rw [e2, RA.bind_ok]
    show (if fit (.list (T.dats ((e8 b).map eB))) && fit (dato S (eB b)) then RE.ok (.int (((T.dats ((e8 b).map eB)).countP fun z => PyData.eqv z (dato S (eB b)) : Nat))) S else .bad) = _
    rw [f1, f2]
    show RE.ok (.int (((T.dats ((e8 b).map eB)).countP fun z => PyData.eqv z (eB b).dat : Nat))) S = _
    rw [cb]
  unfold F_symmetry_count
  rw [dFun_eq (np := 1) (n := 1) (ts := [eB b]) rfl]
  show gcR S (b_symmetry_count [some (eB b)] S) = _
  unfold b_symmetry_count
  rw [dRet_eq, h]
  simp
  rw [gcT_same (by simp)]
theorem least_form_ok : F_least_form [eB b] S = .ok (eB (lf b)) S := by
  have e := eight_boards_ok (S := S) W
  have hk := e8_KK W
  obtain ⟨l1, l2⟩ := lay_brds (e8 b) hk
  have f1 : fit (.list (T.dats ((e8 b).map eB))) = true := by
    simp [fit, SeqAt.shaped, PyData.canLay0, PyData.depth, l1]
    omega
  have hd : (eB (lf b)).dat = PySem.W.minD (eB b).dat (T.dats ((e8 b).tail.map eB)) := lst_dat _ _
  have hu : ∀ (i : Nat) (y : T), ((e8 b).map eB)[i]? = some y → y.dat = PySem.W.minD (eB b).dat (T.dats ((e8 b).tail.map eB)) → y = eB (lf b) := fun i y hy hm => by
    rw [List.getElem?_map] at hy
    obtain ⟨x, _, rfl⟩ := Option.map_eq_some_iff.mp hy
    rw [← hd] at hm
    rw [dat_inj hm]
  have hall : PySem.W.AlikeAll (T.dats ((e8 b).map eB)) := by
    have mem : ∀ z ∈ T.dats ((e8 b).map eB), ∃ x : Brd, z = (eB x).dat := fun z hz => by
      obtain ⟨i, hi, rfl⟩ := List.mem_iff_getElem.mp hz
      have := dats_get ((e8 b).map eB) i
      rw [List.getElem?_eq_getElem hi, List.getElem?_map, Option.map_map] at this
      obtain ⟨x, _, h⟩ := Option.map_eq_some_iff.mp this.symm
      exact ⟨x, h.symm⟩
    refine ⟨fun x hx y hy => ?_, fun x hx => ?_⟩
    · obtain ⟨x, rfl⟩ := mem x hx
      obtain ⟨y, rfl⟩ := mem y hy
      exact alk_B x y
    · obtain ⟨x, rfl⟩ := mem x hx
      intro z
      cases z
  have hm : fMin1 [.tup ((e8 b).map eB)] S = .ok (eB (lf b)) S := by
    have hcond : (fit (.list (T.dats (eB b :: (e8 b).tail.map eB))) = true ∧ PySem.W.AlikeAll (T.dats (eB b :: (e8 b).tail.map eB)) ∧ PyData.depthAll (T.dats (eB b :: (e8 b).tail.map eB)) ≤ 60 ∧ ∃ u, ∀ (i : Nat) (y : T), (eB b :: (e8 b).tail.map eB)[i]? = some y → y.dat = PySem.W.minD (eB b).dat (T.dats ((e8 b).tail.map eB)) → y = u) := ⟨f1, hall, Nat.le_trans l2 (by omega), _, hu⟩
    have e0 : fMin1 [.tup ((e8 b).map eB)] S = .ok (Classical.choose hcond.2.2.2) S := by
      show fMin1 [.tup (eB b :: (e8 b).tail.map eB)] S = _
      unfold fMin1
      simp only
      rw [dif_pos hcond]
    have hc := Classical.choose_spec hcond.2.2.2
    obtain ⟨i, hi, hx⟩ := List.mem_iff_getElem.mp (lf_mem b)
    have : eB (lf b) = Classical.choose hcond.2.2.2 := hc i (eB (lf b)) (by
      show ((e8 b).map eB)[i]? = _
      rw [List.getElem?_map, List.getElem?_eq_getElem hi, hx]
      rfl) hd
    rw [e0, ← this]
  unfold F_least_form
  rw [dFun_eq (np := 1) (n := 1) (ts := [eB b]) rfl]
  show gcR S (b_least_form [some (eB b)] S) = _
  have : b_least_form [some (eB b)] S = .rt (eB (lf b)) S := by
    unfold b_least_form
    generalize (e8 b).map eB = G at e hm
    simp [e, hm]
  rw [this, gcR_rt, gcT_same (by simp)]
end

end Bd

/-! likeness; the law's own turning and mirroring, its eight -/
namespace Bd
open PySem PySem.Spec L2 Dn Pk
theorem find_loop {src : Option Nat} {all : List T} {g : DG} {b : DS} {S : Sto} (e : Nat → T) (hS : Still src all S) (p : Nat → Bool) (t : Nat → T) (P : Sl → Prop) : ∀ (xs : List Nat),
    (∀ x ∈ xs, ∀ sl, P sl → ∃ sl1, g (e x) sl S = some (sl1, S) ∧ ((p x = false ∧ ∃ sl2, b sl1 S = .nx sl2 S ∧ P sl2) ∨ (p x = true ∧ b sl1 S = .rt (t x) S))) → ∀ (sl : Sl), P sl →
    (xs.find? p = none ∧ ∃ sl', forL src all g b (xs.map e) sl S = .nx sl' S ∧ P sl') ∨ (∃ x, xs.find? p = some x ∧ forL src all g b (xs.map e) sl S = .rt (t x) S)
  | [], _, sl, hP => .inl ⟨rfl, sl, by rw [List.map_nil, forL, if_pos hS], hP⟩
  | x :: xs, h, sl, hP => by
    obtain ⟨sl1, h1, h2⟩ := h x List.mem_cons_self sl hP
    rw [List.map_cons, forL, if_pos hS, h1]
    rcases h2 with ⟨h2, sl2, h3, h4⟩ | ⟨h2, h3⟩
    · rcases find_loop e hS p t P xs (fun y hy => h y (List.mem_cons_of_mem _ hy)) sl2 h4 with ⟨q1, sl', q2, q3⟩ | ⟨y, q1, q2⟩
      · exact .inl ⟨by rw [List.find?_cons, h2]; exact q1, sl', by simp only [h3]; exact q2, q3⟩
      · exact .inr ⟨y, by rw [List.find?_cons, h2]; exact q1, by simp only [h3]; exact q2⟩
    · exact .inr ⟨x, by rw [List.find?_cons, h2], by simp only [h3]⟩
def lkG (a b : Brd) : Option Nat := (List.range 8).find? fun i => decide (g8 a i = b)
def lkT : Option Nat → T
  | none => .non
  | some i => .tup [.bl (decide (3 < i)), .int ((i % 4 : Nat))]
theorem lk_some {a b : Brd} : (lkG a b).isSome = decide (b ∈ e8 a) := by
  unfold lkG
  rw [Bool.eq_iff_iff, List.find?_isSome, ← e8_g8]
  simp
theorem lk_self (a : Brd) : lkG a a = some 0 := by
  unfold lkG
  rw [List.range_succ_eq_map, List.find?_cons]
  simp [g8, e8]
section
variable {a b : Brd} {r c : Nat} {S : Sto} (W : KB a r c)
include W
theorem g8_KK (i : Nat) : KK (g8 a i) := by
  unfold g8
  cases h : (e8 a)[i]? with
  | none => exact W.ks
  | some x => exact e8_KK W x (List.mem_of_getElem? h)
theorem likeness_ok (hb : KK b) : F_likeness [eB a, eB b] S = .ok (lkT (lkG a b)) S := by
  have hd := dFor_eq (dIt (dC c_WAYS)) (gT 2 (gsCons (gN 2) (gsCons (gN 3) gsNil))) L_likeness_0 [some (eB a), some (eB b), none, none] S (dIt_eq (S1 := S) (t := c_WAYS) (src := none) (ts := (List.range 8).map wyT) (by simp) (by rw [ways_eq]; rfl))
  have fl := find_loop (src := none) (all := (List.range 8).map wyT) (g := gT 2 (gsCons (gN 2) (gsCons (gN 3) gsNil))) (b := L_likeness_0) (S := S) wyT trivial (fun i => decide (g8 a i = b)) (fun i => lkT (some i)) (fun sl => ∃ x2 x3, sl = [some (eB a), some (eB b), x2, x3]) (List.range 8) (by
    rintro i hi sl ⟨x2, x3, rfl⟩
    have hi' : i < 8 := by simpa using hi
    have m := moved_ok (S := S) W hi'
    have fe := fEq_B (n := false) (g8_KK W i) hb (S := S)
    refine ⟨[some (eB a), some (eB b), some (.bl (decide (3 < i))), some (.int ((i % 4 : Nat)))], by simp [wyT], ?_⟩
    have ht : dTest (dBin (fEq false) (dOwn 3 F_moved_board (dCons (dVar 0) (dCons (dVar 2) (dCons (dVar 3) dNil)))) (dVar 1)) [some (eB a), some (eB b), some (.bl (decide (3 < i))), some (.int ((i % 4 : Nat)))] S = .ok (decide (g8 a i = b)) S := by
      simp only [dTest_eq, dBin_eq, dOwn_eq, dCons_eq, dVar_eq, dNil_eq, List.getElem?_cons_zero, List.getElem?_cons_succ, varR_some, RE.consA_ok, RA.cons_ok, RA.bind_ok, fz_eB, fz_bl, fz_int]
      simp only [List.length_cons, List.length_nil, if_true, m, RE.bind_ok, fz_eB, fe]
      simp
    by_cases h : g8 a i = b
    · right
      refine ⟨decide_eq_true h, ?_⟩
      unfold L_likeness_0
      rw [dIf_eq, ht, decide_eq_true h]
      simp [lkT]
    · left
      refine ⟨decide_eq_false h, [some (eB a), some (eB b), some (.bl (decide (3 < i))), some (.int ((i % 4 : Nat)))], ?_, _, _, rfl⟩
      unfold L_likeness_0
      rw [dIf_eq, ht, decide_eq_false h]
      simp) [some (eB a), some (eB b), none, none] ⟨_, _, rfl⟩
  unfold F_likeness
  rw [dFun_eq (np := 2) (n := 4) (ts := [eB a, eB b]) rfl]
  show gcR S (b_likeness [some (eB a), some (eB b), none, none] S) = _
  unfold b_likeness
  rw [dSeq_eq, hd]
  rcases fl with ⟨h1, sl', h2, h3⟩ | ⟨x, h1, h2⟩
  · rw [h2, RS.seq_nx, show lkG a b = none from h1]
    simp [lkT]
    rw [gcT_same (by simp)]
  · rw [h2, show lkG a b = some x from h1]
    simp [lkT]
    rw [gcT_same (by simp [T.lt, T.lts])]
theorem are_alike_ok {r' c' : Nat} (W' : KB b r' c') : F_are_alike [eB a, eB b] S = .ok (.bl (decide (b ∈ e8 a))) S := by
  have l1 := least_form_ok (S := S) W
  have l2 := least_form_ok (S := S) W'
  have fe := fEq_B (n := false) (e8_KK W _ (lf_mem a)) (e8_KK W' _ (lf_mem b)) (S := S)
  have hi := alike_iff W.gb W'.gb
  have e : decide (lf a = lf b) = decide (b ∈ e8 a) := decide_eq_decide.mpr hi
  have fe' : fEq false (eB (lf a)) (eB (lf b)) S = .ok (.bl (decide (b ∈ e8 a))) S := by
    rw [fe]
    simp only [Bool.false_eq_true, if_false, e]
  simp [F_are_alike, dFun_eq, b_are_alike, l1, l2, fe']
  rw [gcT_same (by simp)]
end
/-! ### the law's own -/
section
variable {S : Sto}
theorem sgn_KS' : ∀ k ∈ KS, sgn k = Sx ([100, 115, 117].filter fun c => decide (exN c ∈ tl k)) := by decide +kernel
theorem cat_Sx {a b : List Nat} {S : Sto} (h : a.length + b.length ≤ 1000) : fAdd (.str (Sx a)) (.str (Sx b)) S = .ok (.str (Sx (a ++ b))) S := by
  rw [fAdd_str, Sx_cat, if_pos (by rw [len_Sx, len_Sx, PySem.sizeLine_eq]; omega)]
theorem exch1_ok {k : Str} (hk : k ∈ KS) : F__law_exchanged_v1 [.str k] S = .ok (.str (sgn k)) S := by
  obtain ⟨sl', S', q1, rfl, pre, x2, x3, hp, rfl⟩ := forL_inv (src := none) (all := [100, 115, 117].map fun c => T.tup [ch c, ch (exN c)]) (g := gT 2 (gsCons (gN 2) (gsCons (gN 3) gsNil))) (b := L__law_exchanged_v1_0) (fun c : Nat => T.tup [ch c, ch (exN c)])
    (fun xs sl X => X = S ∧ ∃ (pre : List Nat) (x2 x3 : Option T), pre ++ xs = [100, 115, 117] ∧ sl = [some (.str k), some (.str (Sx (pre.filter fun c => decide (exN c ∈ tl k)))), x2, x3]) (fun _ _ _ _ => trivial) (by
      rintro d xs sl X ⟨rfl, pre, x2, x3, hp, rfl⟩
      have hpl := congrArg List.length hp
      simp at hpl
      have hfl := List.length_filter_le (fun c => decide (exN c ∈ tl k)) pre
      by_cases h : exN d ∈ tl k
      · have ca := cat_Sx (a := pre.filter fun c => decide (exN c ∈ tl k)) (b := [d]) (S := X) (by simp; omega)
        refine ⟨[some (.str k), some (.str (Sx (pre.filter fun c => decide (exN c ∈ tl k)))), some (ch d), some (ch (exN d))], X, [some (.str k), some (.str (Sx ((pre ++ [d]).filter fun c => decide (exN c ∈ tl k)))), some (ch d), some (ch (exN d))], X, by simp, .inl ?_, rfl, pre ++ [d], _, _, by simpa using hp, rfl⟩
        have e : (pre ++ [d]).filter (fun c => decide (exN c ∈ tl k)) = pre.filter (fun c => decide (exN c ∈ tl k)) ++ [d] := by rw [List.filter_append]; simp [h]
        rw [e]
        generalize (pre.filter fun c => decide (exN c ∈ tl k)) = F at ca ⊢
        have ca' : fAdd (.str (Sx F)) (ch d) X = .ok (.str (Sx (F ++ [d]))) X := ca
        generalize Sx F = z at ca' ⊢
        generalize Sx (F ++ [d]) = z2 at ca' ⊢
        simp [L__law_exchanged_v1_0, h, ca', -fAdd_str]
      · refine ⟨[some (.str k), some (.str (Sx (pre.filter fun c => decide (exN c ∈ tl k)))), some (ch d), some (ch (exN d))], X, [some (.str k), some (.str (Sx ((pre ++ [d]).filter fun c => decide (exN c ∈ tl k)))), some (ch d), some (ch (exN d))], X, by simp, .inl ?_, rfl, pre ++ [d], _, _, by simpa using hp, rfl⟩
        have e : (pre ++ [d]).filter (fun c => decide (exN c ∈ tl k)) = pre.filter (fun c => decide (exN c ∈ tl k)) := by rw [List.filter_append]; simp [h]
        rw [e]
        generalize (pre.filter fun c => decide (exN c ∈ tl k)) = F
        generalize Sx F = z
        simp [L__law_exchanged_v1_0, h])
    [100, 115, 117] [some (.str k), some (.str ""), none, none] S ⟨rfl, [], none, none, rfl, rfl⟩
  rw [List.append_nil] at hp
  rw [hp, ← sgn_KS' k hk] at q1
  have hd := dFor_eq (dIt (dTup (dCons (dTup (dCons (dC (.str "d")) (dCons (dC (.str "u")) dNil))) (dCons (dTup (dCons (dC (.str "s")) (dCons (dC (.str "s")) dNil))) (dCons (dTup (dCons (dC (.str "u")) (dCons (dC (.str "d")) dNil))) dNil))))) (gT 2 (gsCons (gN 2) (gsCons (gN 3) gsNil))) L__law_exchanged_v1_0 [some (.str k), some (.str ""), none, none] S' (dIt_eq (S1 := S') (t := .tup ([100, 115, 117].map fun c => T.tup [ch c, ch (exN c)])) (src := none) (ts := [100, 115, 117].map fun c => T.tup [ch c, ch (exN c)]) (by simp; decide) rfl)
  unfold F__law_exchanged_v1
  rw [dFun_eq (np := 1) (n := 4) (ts := [.str k]) rfl]
  show gcR S' (b__law_exchanged_v1 [some (.str k), none, none, none] S') = _
  unfold b__law_exchanged_v1
  have i0 : (dSet 1 (dC (.str ""))) [some (.str k), none, none, none] S' = .nx [some (.str k), some (.str ""), none, none] S' := by simp
  rw [dSeq_eq, i0, RS.seq_nx, dSeq_eq, hd, q1, RS.seq_nx]
  generalize sgn k = z
  simp
  rw [gcT_same (by simp)]
end
end Bd

/-! _law_same of a thing with itself; the law's turning and mirroring, its eight -/
namespace Bd
open PySem PySem.Spec L2 Dn Pk
def Kp (S S' : Sto) : Prop := S.length ≤ S'.length ∧ ∀ i, i < S.length → S'[i]? = S[i]?
theorem Kp.refl (S : Sto) : Kp S S := ⟨Nat.le_refl _, fun _ _ => rfl⟩
theorem Kp.set {S S' : Sto} (h : Kp S S') {k : Nat} (hk : S.length ≤ k) (o : MO) : Kp S (S'.set k o) := ⟨by rw [List.length_set]; exact h.1, fun i hi => by rw [List.getElem?_set_ne (by omega)]; exact h.2 i hi⟩
theorem Kp.app {S S' : Sto} (h : Kp S S') (X : Sto) : Kp S (S' ++ X) := ⟨by rw [List.length_append]; have := h.1; omega, fun i hi => by rw [List.getElem?_append_left (by have := h.1; omega)]; exact h.2 i hi⟩
theorem Kp.gc {S S' : Sto} (h : Kp S S') {t : T} (ht : t.lt S.length = true) : gcT S t S' = .ok t S := by
  rw [gcT_cut ⟨h.1, fun i hi o ho => .inl (by rw [← h.2 i hi]; exact ho)⟩ ht]
  congr 1
  apply List.ext_getElem?
  intro i
  by_cases hi : i < S.length
  · rw [List.getElem?_take_of_lt hi, h.2 i hi]
  · rw [List.getElem?_eq_none (by rw [List.length_take]; omega), List.getElem?_eq_none (by omega)]
abbrev pr2 (u : T) : T := .tup [u, u]
theorem same36 {t : T} {S : Sto} (h : Dt t = true) (hs : sz t ≤ 1000000) : F__law_same_v3 [t, t] S = .ok (.bl true) S := by
  have hfz : ∀ u, Dt u = true → fz u = u := fun u hu => by cases u <;> first | rfl | simp [Dt] at hu
  let sh := fun (x2 a b c : Option T) => [some t, some t, x2, a, b, c]
  obtain ⟨sl', S', q1, hK⟩ := while_inv (c := dTest (dBin fGT (dCall fLen (dCons (dVar 2) dNil)) (dC (.int 0)))) (b := L__law_same_v3_2)
    (fun m sl S' => ∃ (st : List T) (k : Nat) (a b c : Option T), (∀ u ∈ st, Dt u = true) ∧ m = szs st ∧ m ≤ 1000000 ∧ Kp S S' ∧ S.length ≤ k ∧ S'[k]? = some (.lst (st.map pr2)) ∧ sl = sh (some (.ref k)) a b c) (fun sl S' => Kp S S') (by
    rintro m sl S' ⟨st, k, a, b, c, hD, rfl, hm, hK, hk, hg, rfl⟩
    rcases List.eq_nil_or_concat st with rfl | ⟨st', u, rfl⟩
    · refine .inr ⟨S', ?_, hK⟩
      simp [sh, fLen_ref hg]
    · left
      rw [List.concat_eq_append] at hD hm hg ⊢
      have hu : Dt u = true := hD u (by simp)
      have hD' : ∀ v ∈ st', Dt v = true := fun v hv => hD v (by simp [hv])
      have ez : szs (st' ++ [u]) = szs st' + sz u := by simp [szs_sum]
      have hp := sz_pos u
      have ls := len_szs st'
      rw [ez] at hm ⊢
      have hg' : S'[k]? = some (.lst (st'.map pr2 ++ [pr2 u])) := by rw [hg]; simp
      have lt := (List.getElem?_eq_some_iff.mp hg').1
      have gx : (S'.set k (.lst (st'.map pr2)))[k]? = some (.lst (st'.map pr2)) := List.getElem?_set_self lt
      have e0 : dTest (dBin fGT (dCall fLen (dCons (dVar 2) dNil)) (dC (.int 0))) (sh (some (.ref k)) a b c) S' = .ok true S' := by
        have hz : st'.length < 16777216 := by omega
        simp [sh, fLen_ref hg', hz]
        try omega
      have hfu := hfz u hu
      have hpop := fPop_ref hg' (t := pr2 u) (by simp)
      have hmt := mTy_ref hg'
      rw [List.dropLast_concat] at hpop
      have simple : srt u < 4 → L__law_same_v3_2 (sh (some (.ref k)) a b c) S' = .nx (sh (some (.ref k)) (some u) (some u) c) (S'.set k (.lst (st'.map pr2))) := by
        intro h4
        have es := eq_self_ok (S := S'.set k (.lst (st'.map pr2))) hu h4
        cases u with
        | non => simp [L__law_same_v3_2, sh, hmt, hpop, isaB]
        | bl q => simp [L__law_same_v3_2, sh, hmt, hpop, isaB]
        | int q => simp [L__law_same_v3_2, sh, hmt, hpop, isaB]
        | str q => simp [L__law_same_v3_2, sh, hmt, hpop, isaB]
        | tup us => simp [srt] at h4
        | _ => simp [Dt] at hu
      by_cases h4 : srt u < 4
      · exact ⟨S', szs st', _, _, e0, by omega, .inl (simple h4), st', k, _, _, _, hD', rfl, by omega, hK.set hk _, hk, gx, rfl⟩
      · obtain ⟨us, rfl⟩ : ∃ us, u = .tup us := by
          cases u with
          | tup us => exact ⟨us, rfl⟩
          | non => simp [srt] at h4
          | bl _ => simp [srt] at h4
          | int _ => simp [srt] at h4
          | str _ => simp [srt] at h4
          | _ => simp [Dt] at hu
        have hus : ∀ v ∈ us, Dt v = true := Dts_all.mp (by simpa [Dt] using hu)
        have lu := len_szs us
        have esz : sz (.tup us) = 1 + szs us := by simp [sz]
        have hz16 : us.length ≤ 16777216 := by omega
        generalize hX : S'.set k (.lst (st'.map pr2)) = X at gx hpop
        have hC : C__law_same_v3_0 (sh (some (.ref k)) (some (.tup us)) (some (.tup us)) c) X = .ok (.nlst (us.map pr2)) X := by
          unfold C__law_same_v3_0
          rw [dLc_eq _ _ _ _ _ _ _ (dRng1_eq (n := us.length) (S1 := X) (by simp [sh, hz16]) (by omega))]
          rw [lcL_map (S := X) (src := none) trivial (fun j : Nat => T.int j) (fun _ => true) (fun j => pr2 (us[j]?.getD .non)) (List.range us.length) [] ?_ (by rw [PySem.sizeLine_eq]; simp; omega)]
          · rw [List.nil_append, List.filter_eq_self.mpr (fun _ _ => rfl)]
            congr 2
            apply List.ext_getElem?
            intro j
            by_cases hj : j < us.length
            · rw [List.getElem?_map, List.getElem?_range hj, List.getElem?_map, List.getElem?_eq_getElem hj]
              simp [List.getElem?_eq_getElem hj]
            · rw [List.getElem?_eq_none (by simp; omega), List.getElem?_eq_none (by simp; omega)]
          · intro j hj
            have hj' : j < us.length := by simpa using hj
            have hv := hfz us[j] (hus _ (List.getElem_mem hj'))
            refine ⟨sh (some (.ref k)) (some (.tup us)) (some (.tup us)) (some (.int (j : Nat))), by simp [sh, wipeT], rfl, fun _ => ⟨pr2 (us[j]?.getD .non), ?_, rfl⟩⟩
            simp [sh, atI_n, List.getElem?_eq_getElem hj', hv]
        have hadd : fAdd (.ref k) (.lst (us.map pr2)) X = .ok (.nlst (st'.map pr2 ++ us.map pr2)) X := by
          unfold fAdd
          simp only [lstOf', gx]
          rw [if_pos (by rw [PySem.sizeLine_eq]; simp; omega)]
        have hlen : X.length = S'.length := by rw [← hX, List.length_set]
        have hKX : Kp S X := by rw [← hX]; exact hK.set hk _
        have body : L__law_same_v3_2 (sh (some (.ref k)) a b c) S' = .nx (sh (some (.ref X.length)) (some (.tup us)) (some (.tup us)) c) (X ++ [.lst (st'.map pr2 ++ us.map pr2)]) := by
          have i0 : (dAsg (dMeth0 "list" fPop (dVar 2)) (gT 2 (gsCons (gN 3) (gsCons (gN 4) gsNil)))) (sh (some (.ref k)) a b c) S' = .nx (sh (some (.ref k)) (some (.tup us)) (some (.tup us)) c) X := by
            simp [sh, hmt, hpop]
          unfold L__law_same_v3_2
          rw [dSeq_eq, i0, RS.seq_nx]
          generalize C__law_same_v3_0 = C at hC ⊢
          generalize C__law_same_v3_1 = C1
          generalize us.map pr2 = M at hC hadd ⊢
          simp only [sh] at hC ⊢
          simp [isaB, hz16, hC, hadd]
        refine ⟨S', szs st' + szs us, _, _, e0, by rw [esz]; omega, .inl body, st' ++ us, X.length, _, _, _, fun v hv => (List.mem_append.mp hv).elim (hD' v) (hus v), by simp [szs_sum], by rw [esz] at hm; omega, hKX.app _, hKX.1, ?_, rfl⟩
        rw [List.map_append]
        exact top_get)
    FUEL (sz t) (sh (some (.ref S.length)) none none none) (S ++ [.lst [pr2 t]]) ⟨[t], S.length, _, _, _, by simpa using h, by simp [szs], hs, (Kp.refl S).app _, Nat.le_refl _, top_get, rfl⟩ (by unfold FUEL; omega)
  have ft := hfz t h
  have i0 : (dSetM 2 (dLst (dCons (dTup (dCons (dVar 0) (dCons (dVar 1) dNil))) dNil))) [some t, some t, none, none, none, none] S = .nx (sh (some (.ref S.length)) none none none) (S ++ [.lst [pr2 t]]) := by
    simp [sh, ft]
  unfold F__law_same_v3
  rw [dFun_eq (np := 2) (n := 6) (ts := [t, t]) rfl]
  show gcR S (b__law_same_v3 [some t, some t, none, none, none, none] S) = _
  unfold b__law_same_v3
  rw [dSeq_eq, i0, RS.seq_nx, dSeq_eq, dWhile_eq, q1, RS.seq_nx]
  simp
  rw [hK.gc rfl]
end Bd

/-! the law's own eight; a board alone, two boards asked -/
namespace Bd
open PySem PySem.Spec L2 Dn Pk
theorem mir_rows {g : Brd} {r c : Nat} (W : GB g r c) : g.map (fun q => q.reverse.map sgn) = mir g := by
  conv => lhs; rw [grid_eq W]
  unfold mir
  rw [W.len, W.wid]
  unfold mkB
  rw [List.map_map]
  refine List.map_congr_left fun i _ => ?_
  show ((List.range c).map fun j => at_ g i j).reverse.map sgn = _
  rw [← List.map_reverse, List.map_map]
  apply List.ext_getElem
  · simp
  · intro j h1 h2
    have hj : j < c := by simpa using h1
    simp [List.getElem_reverse]
@[simp] theorem fz_eR' {l : List Str} : fz (eR l) = eR l := rfl
section
variable {b : Brd} {r c : Nat} {S : Sto} (W : KB b r c)
include W
theorem mirrored1_ok : F__law_mirrored_v1 [eB b] S = .ok (eB (mir b)) S := by
  obtain ⟨p1, p2, p3, p4⟩ := W.pos
  have hl := W.len
  have hw := W.wid
  let sh := fun (x1 x2 : Option T) => [some (eB b), x1, x2]
  have inner : ∀ q ∈ b, C__law_mirrored_v1_0 (sh (some (eR q)) none) S = .ok (.nlst ((q.reverse.map sgn).map T.str)) S := by
    intro q hq
    have hql : q.length = c := by rw [← hw]; exact W.wb.rect q hq
    unfold C__law_mirrored_v1_0
    rw [dLc_eq _ _ _ _ _ _ _ (dIt_eq (S1 := S) (t := eR q.reverse) (src := none) (ts := q.reverse.map T.str) (by simp [sh, eR]) rfl)]
    rw [lcL_map still_none T.str (fun _ => true) (fun k => T.str (sgn k)) q.reverse [] ?_ (by simp; omega)]
    · rw [List.nil_append, List.filter_eq_self.mpr (fun _ _ => rfl), List.map_map]
      rfl
    · intro k hk
      have hk' : k ∈ KS := W.ks q hq k (by simpa using hk)
      exact ⟨sh (some (eR q)) (some (.str k)), by simp [sh, wipeT], rfl, fun _ => ⟨T.str (sgn k), by simp [sh, exch1_ok hk'], rfl⟩⟩
  have outer : C__law_mirrored_v1_1 (sh none none) S = .ok (.nlst ((mir b).map eR)) S := by
    unfold C__law_mirrored_v1_1
    rw [dLc_eq _ _ _ _ _ _ _ (dIt_eq (S1 := S) (t := eB b) (src := none) (ts := b.map eR) (by simp [sh]) rfl)]
    rw [lcL_map still_none eR (fun _ => true) (fun q => eR (q.reverse.map sgn)) b [] ?_ (by simp; omega)]
    · rw [List.nil_append, List.filter_eq_self.mpr (fun _ _ => rfl), ← mir_rows W.gb, List.map_map]
      rfl
    · intro q hq
      refine ⟨sh (some (eR q)) none, by simp [sh, wipeT], rfl, fun _ => ⟨eR (q.reverse.map sgn), ?_, rfl⟩⟩
      have h := inner q hq
      simp only [sh] at h
      have e2 : T.tup ((q.reverse.map sgn).map T.str) = eR (q.reverse.map sgn) := rfl
      generalize q.reverse.map sgn = M at h e2 ⊢
      simp [sh, h, e2]
  have e : T.tup ((mir b).map eR) = eB (mir b) := rfl
  simp only [sh] at outer
  simp [F__law_mirrored_v1, dFun_eq, b__law_mirrored_v1, outer, e]
  rw [gcT_same (by simp)]
theorem turned1_ok : F__law_turned_v1 [eB b] S = .ok (eB (trn b)) S := by
  obtain ⟨p1, p2, p3, p4⟩ := W.pos
  have hlen := W.len
  have hwid := W.wid
  have l1 : b.length ≤ 16777216 := by omega
  have l2 : wd b ≤ 16777216 := by omega
  have hr0 := fun S => ix_row0 (S := S) W.wb
  have hwd := wd0 b
  let sh := fun (x3 x4 : Option T) => [some (eB b), some (.int (r : Nat)), some (T.ref S.length), x3, x4]
  have inner : ∀ j, j < c → ∀ acc, C__law_turned_v1_0 (sh (some (.int (j : Nat))) none) (S ++ [.lst acc]) = .ok (.nlst (((List.range r).map fun i => sgn (at_ b (r - 1 - i) j)).map T.str)) (S ++ [.lst acc]) := by
    intro j hj acc
    unfold C__law_turned_v1_0
    rw [dLc_eq _ _ _ _ _ _ _ (dRng1_eq (S1 := S ++ [.lst acc]) (n := r) (by simp [sh]) (by omega))]
    rw [lcL_map still_none (fun k : Nat => T.int k) (fun _ => true) (fun i => T.str (sgn (at_ b (r - 1 - i) j))) (List.range r) [] ?_ (by simp; omega)]
    · rw [List.nil_append, List.filter_eq_self.mpr (fun _ _ => rfl), List.map_map]
      rfl
    · intro i hir
      have hi' : i < r := by simpa using hir
      have e1 : ((r - 1 - i : Nat) : Int) = (r : Int) - 1 - i := by omega
      have a1 : fIx (eB b) (.int ((r : Int) - 1 - i)) (S ++ [.lst acc]) = .ok (eR (row b (r - 1 - i))) (S ++ [.lst acc]) := by rw [← e1]; exact ix_row W.wb (by omega)
      have a2 := ix_cell (S := S ++ [.lst acc]) W.wb (r := r - 1 - i) (c := j) (by omega) (by omega)
      have a3 := exch1_ok (S := S ++ [.lst acc]) (at_KS W (i := r - 1 - i) (j := j) (by omega) (by omega))
      refine ⟨sh (some (.int (j : Nat))) (some (.int (i : Nat))), by simp [sh, wipeT], rfl, fun _ => ⟨T.str (sgn (at_ b (r - 1 - i) j)), ?_, rfl⟩⟩
      simp [sh, a1, a2, a3]
  obtain ⟨sl', q1, y3, rfl⟩ := for_app (S := S) (src := none) (all := (List.range c).map fun k => T.int (k : Nat)) (g := gN 3) (b := L__law_turned_v1_1) (fun k : Nat => T.int k) (fun j => [eR ((List.range r).map fun i => sgn (at_ b (r - 1 - i) j))]) (fun sl => ∃ x3, sl = sh x3 none) 1 1000000 (fun _ => trivial)
    (List.range c) [] (sh none none) (fun _ _ => by simp) (fun j hj acc sl ⟨x3, e⟩ hla => by
      subst e
      have hj' : j < c := by simpa using hj
      refine ⟨_, _, sh (some (.int (j : Nat))) none, gN_eq _, .inl ?_, _, rfl⟩
      have hz : acc.length < 16777216 := by omega
      have hc := inner j hj' acc
      simp only [sh] at hc
      simp [L__law_turned_v1_1, sh, hz, hc, eR]) (by simp; omega) ⟨_, rfl⟩
  have e1 : [] ++ (List.range c).flatMap (fun j => [eR ((List.range r).map fun i => sgn (at_ b (r - 1 - i) j))]) = (trn b).map eR := by
    unfold trn mkB
    rw [hlen, hwid, List.nil_append, ← List.map_eq_flatMap, List.map_map]
    rfl
  rw [e1] at q1
  have hd := dFor_eq (dRng1 (dCons (dCall fLen (dCons (dBin fIx (dVar 0) (dC (.int 0))) dNil)) dNil)) (gN 3) L__law_turned_v1_1 (sh none none) (S ++ [.lst []]) (dRng1_eq (n := c) (S1 := S ++ [.lst []]) (by simp [sh, hr0, hwd, hwid, show c ≤ 16777216 by omega]) (by omega))
  have i0 : (dSet 1 (dCall fLen (dCons (dVar 0) dNil))) [some (eB b), none, none, none, none] S = .nx [some (eB b), some (.int (r : Nat)), none, none, none] S := by simp [hlen, show r ≤ 16777216 by omega]
  have i1 : (dSetM 2 (dLst dNil)) [some (eB b), some (.int (r : Nat)), none, none, none] S = .nx (sh none none) (S ++ [.lst []]) := by simp [sh]
  unfold F__law_turned_v1
  rw [dFun_eq (np := 1) (n := 5) (ts := [eB b]) rfl]
  show gcR S (b__law_turned_v1 [some (eB b), none, none, none, none] S) = _
  unfold b__law_turned_v1
  rw [dSeq_eq, i0, RS.seq_nx, dSeq_eq, i1, RS.seq_nx, dSeq_eq, hd, q1, RS.seq_nx]
  have hlt : T.lts S.length ((trn b).map eR) = true := ltsM fun q _ => by show T.lts _ (q.map T.str) = true; exact lts_strs _ _
  have : (dRet (dCall fTuple (dCons (dVar 2) dNil))) (sh y3 none) (S ++ [.lst ((trn b).map eR)]) = .rt (eB (trn b)) (S ++ [.lst ((trn b).map eR)]) := by
    unfold eB
    generalize (trn b).map eR = M
    simp [sh]
  rw [this, gcR_rt, gcT_app (by simp)]
omit W in
def trk : Nat → Brd → Brd
  | 0, g => g
  | k + 1, g => trn (trk k g)
omit W in
theorem trk_KB {g : Brd} : ∀ (k : Nat) {r c : Nat}, KB g r c → ∃ r' c', KB (trk k g) r' c'
  | 0, _, _, h => ⟨_, _, h⟩
  | k + 1, _, _, h => by
    obtain ⟨r', c', h'⟩ := trk_KB k h
    exact ⟨_, _, trn_KB h'⟩
theorem four_ok {x0 x2 x4 : Option T} {acc : List T} (hz : acc.length ≤ 100) : ∃ y3 y4, forL none ((List.range 4).map fun k => T.int (k : Nat)) (gN 4) L__law_eight_0 ((List.range 4).map fun k => T.int (k : Nat)) [x0, some (.ref S.length), x2, some (eB b), x4] (S ++ [.lst acc]) = .nx [x0, some (.ref S.length), x2, y3, y4] (S ++ [.lst (acc ++ [eB b, eB (trn b), eB (trn (trn b)), eB (trn (trn (trn b)))])]) := by
  obtain ⟨sl', S, q1, k, y4, hk, rfl, rfl⟩ := forL_inv (src := none) (all := (List.range 4).map fun k => T.int (k : Nat)) (g := gN 4) (b := L__law_eight_0) (fun k : Nat => T.int k)
    (fun xs sl X => ∃ (k : Nat) (y4 : Option T), k + xs.length = 4 ∧ X = S ++ [.lst (acc ++ (List.range k).map fun i => eB (trk i b))] ∧ sl = [x0, some (.ref S.length), x2, some (eB (trk k b)), y4]) (fun _ _ _ _ => trivial) (by
      rintro i xs sl X ⟨k, y4, hk, rfl, rfl⟩
      rw [List.length_cons] at hk
      obtain ⟨r', c', h'⟩ := trk_KB k W
      have t := turned1_ok (S := S ++ [.lst (acc ++ (List.range (k + 1)).map fun i => eB (trk i b))]) h'
      have e : acc ++ (List.range (k + 1)).map (fun i => eB (trk i b)) = (acc ++ (List.range k).map fun i => eB (trk i b)) ++ [eB (trk k b)] := by rw [List.range_succ]; simp
      refine ⟨_, _, [x0, some (.ref S.length), x2, some (eB (trk (k + 1) b)), some (.int (i : Nat))], _, gN_eq _, .inl ?_, k + 1, _, by omega, rfl, rfl⟩
      rw [e] at t ⊢
      have hz2 : (acc ++ (List.range k).map fun i => eB (trk i b)).length < 16777216 := by simp; omega
      generalize (acc ++ (List.range k).map fun i => eB (trk i b)) = A at t hz2 ⊢
      have t' : F__law_turned_v1 [eB (trk k b)] (S ++ [.lst (A ++ [eB (trk k b)])]) = .ok (eB (trk (k + 1) b)) (S ++ [.lst (A ++ [eB (trk k b)])]) := t
      generalize trk k b = g at t' ⊢
      simp [L__law_eight_0, hz2, t'])
    (List.range 4) [x0, some (.ref S.length), x2, some (eB b), x4] (S ++ [.lst acc]) ⟨0, x4, rfl, by simp, rfl⟩
  have hk4 : k = 4 := by simpa using hk
  subst hk4
  exact ⟨_, _, q1⟩
theorem law_eight_ok : F__law_eight [eB b] S = .ok (.nlst ((e8 b).map eB)) S := by
  have m := fun S => mirrored1_ok (S := S) W
  have M := mir_KB W
  let sh := fun (x2 x3 x4 : Option T) => [some (eB b), some (T.ref S.length), x2, x3, x4]
  have lap : ∀ (g : Brd) (r' c' : Nat), KB g r' c' → ∀ (acc : List T) (x3 x4 : Option T), acc.length ≤ 100 → ∃ y3 y4, L__law_eight_1 (sh (some (eB g)) x3 x4) (S ++ [.lst acc]) = .nx (sh (some (eB g)) y3 y4) (S ++ [.lst (acc ++ [eB g, eB (trn g), eB (trn (trn g)), eB (trn (trn (trn g)))])]) := by
    intro g r' c' h acc x3 x4 hz
    obtain ⟨y3, y4, q⟩ := four_ok (S := S) h (x0 := some (eB b)) (x2 := some (eB g)) (x4 := x4) hz
    have hd := dFor_eq (dRng1 (dCons (dC (.int 4)) dNil)) (gN 4) L__law_eight_0 (sh (some (eB g)) (some (eB g)) x4) (S ++ [.lst acc]) (dRng1_eq (n := 4) (S1 := S ++ [.lst acc]) rfl (by omega))
    refine ⟨y3, y4, ?_⟩
    unfold L__law_eight_1
    have i0 : (dSet 3 (dVar 2)) (sh (some (eB g)) x3 x4) (S ++ [.lst acc]) = .nx (sh (some (eB g)) (some (eB g)) x4) (S ++ [.lst acc]) := by simp [sh]
    rw [dSeq_eq, i0, RS.seq_nx, hd]
    exact q
  obtain ⟨y3, y4, q1⟩ := lap b r c W [] none none (by simp)
  obtain ⟨z3, z4, q2⟩ := lap (mir b) _ _ M [eB b, eB (trn b), eB (trn (trn b)), eB (trn (trn (trn b)))] y3 y4 (by simp)
  rw [List.nil_append] at q1
  have hf : forL none [eB b, eB (mir b)] (gN 2) L__law_eight_1 [eB b, eB (mir b)] (sh none none none) (S ++ [.lst []]) = .nx (sh (some (eB (mir b))) z3 z4) (S ++ [.lst ((e8 b).map eB)]) := by
    rw [forL, if_pos (show Still none [eB b, eB (mir b)] _ from trivial), gN_eq]
    simp only [sh, List.set_cons_succ, List.set_cons_zero] at q1 q2 ⊢
    rw [q1]
    simp only
    rw [forL, if_pos (show Still none [eB b, eB (mir b)] _ from trivial), gN_eq]
    simp only [List.set_cons_succ, List.set_cons_zero]
    rw [q2]
    simp only
    rw [forL, if_pos (show Still none [eB b, eB (mir b)] _ from trivial)]
    rfl
  have hd := dFor_eq (dIt (dTup (dCons (dVar 0) (dCons (dOwn 1 F__law_mirrored_v1 (dCons (dVar 0) dNil)) dNil)))) (gN 2) L__law_eight_1 (sh none none none) (S ++ [.lst []]) (dIt_eq (S1 := S ++ [.lst []]) (t := .tup [eB b, eB (mir b)]) (src := none) (ts := [eB b, eB (mir b)]) (by simp [sh, m]) rfl)
  have i0 : (dSetM 1 (dLst dNil)) [some (eB b), none, none, none, none] S = .nx (sh none none none) (S ++ [.lst []]) := by simp [sh]
  unfold F__law_eight
  rw [dFun_eq (np := 1) (n := 5) (ts := [eB b]) rfl]
  show gcR S (b__law_eight [some (eB b), none, none, none, none] S) = _
  unfold b__law_eight
  rw [dSeq_eq, i0, RS.seq_nx, dSeq_eq, hd, hf, RS.seq_nx]
  have hlt : T.lts S.length ((e8 b).map eB) = true := lts_eB W
  generalize (e8 b).map eB = G at hlt ⊢
  have : (dRet (dVar 1)) (sh (some (eB (mir b))) z3 z4) (S ++ [.lst G]) = .rt (.ref S.length) (S ++ [.lst G]) := by simp [sh]
  rw [this, gcR_rt, gcT_top hlt]
theorem law_likeness_ok {o : Brd} (ho : KK o) : F__law_likeness [eB b, eB o] S = .ok (lkT (lkG b o)) S := by
  have e := law_eight_ok (S := S) W
  have ix : ∀ i, i < 8 → ∀ S : Sto, fIx (.lst ((e8 b).map eB)) (.int (i : Nat)) S = .ok (eB (g8 b i)) S := fun i hi S => by
    rw [fIx_lst, atI_n, List.getElem?_map]
    have hl : i < (e8 b).length := hi
    unfold g8
    rw [List.getElem?_eq_getElem hl]
    rfl
  have hk := g8_KK W
  generalize hE : (e8 b).map eB = E at e ix
  have fl := find_loop (src := none) (all := (List.range 8).map fun k => T.int (k : Nat)) (g := gN 3) (b := L__law_likeness_0) (S := S) (fun k : Nat => T.int k) trivial (fun i => decide (g8 b i = o)) (fun i => lkT (some i)) (fun sl => ∃ x3, sl = [some (eB b), some (eB o), some (.lst E), x3]) (List.range 8) (by
    rintro i hi sl ⟨x3, rfl⟩
    have hi' : i < 8 := by simpa using hi
    have fe := fEq_B (n := false) (hk i) ho (S := S)
    have ht : dTest (dBin (fEq false) (dBin fIx (dVar 2) (dVar 3)) (dVar 1)) [some (eB b), some (eB o), some (.lst E), some (.int (i : Nat))] S = .ok (decide (g8 b i = o)) S := by
      simp only [dTest_eq, dBin_eq, dVar_eq, List.getElem?_cons_zero, List.getElem?_cons_succ, varR_some, RE.bind_ok, fz_lst, fz_int, ix i hi', fz_eB, fe]
      simp
    refine ⟨_, gN_eq _, ?_⟩
    show (_ ∧ ∃ sl2, L__law_likeness_0 [some (eB b), some (eB o), some (.lst E), some (.int (i : Nat))] S = .nx sl2 S ∧ _) ∨ (_ ∧ L__law_likeness_0 [some (eB b), some (eB o), some (.lst E), some (.int (i : Nat))] S = _)
    by_cases h : g8 b i = o
    · right
      refine ⟨decide_eq_true h, ?_⟩
      unfold L__law_likeness_0
      rw [dIf_eq, ht, decide_eq_true h]
      simp [lkT]
      omega
    · left
      refine ⟨decide_eq_false h, [some (eB b), some (eB o), some (.lst E), some (.int (i : Nat))], ?_, _, rfl⟩
      unfold L__law_likeness_0
      rw [dIf_eq, ht, decide_eq_false h]
      simp) [some (eB b), some (eB o), some (.lst E), none] ⟨_, rfl⟩
  have hd := dFor_eq (dRng1 (dCons (dC (.int 8)) dNil)) (gN 3) L__law_likeness_0 [some (eB b), some (eB o), some (.lst E), none] S (dRng1_eq (n := 8) (S1 := S) rfl (by omega))
  have i0 : (dSet 2 (dOwn 1 F__law_eight (dCons (dVar 0) dNil))) [some (eB b), some (eB o), none, none] S = .nx [some (eB b), some (eB o), some (.lst E), none] S := by simp [e]
  unfold F__law_likeness
  rw [dFun_eq (np := 2) (n := 4) (ts := [eB b, eB o]) rfl]
  show gcR S (b__law_likeness [some (eB b), some (eB o), none, none] S) = _
  unfold b__law_likeness
  rw [dSeq_eq, i0, RS.seq_nx, dSeq_eq, hd]
  rcases fl with ⟨h1, sl', h2, h3⟩ | ⟨x, h1, h2⟩
  · rw [h2, RS.seq_nx, show lkG b o = none from h1]
    simp [lkT]
    rw [gcT_same (by simp)]
  · rw [h2, show lkG b o = some x from h1]
    simp [lkT]
    rw [gcT_same (by simp [T.lt, T.lts])]
end
/-! ### sizes -/
theorem sz_eR (l : List Str) : Dt (eR l) = true ∧ sz (eR l) = 1 + l.length := by
  constructor
  · show Dts (l.map T.str) = true
    exact Dts_all.mpr fun t ht => by
      obtain ⟨z, _, rfl⟩ := List.mem_map.mp ht
      rfl
  · show 1 + szs (l.map T.str) = _
    rw [szs_sum]
    have : ∀ l : List Str, ((l.map T.str).map sz).sum = l.length := fun l => by
      induction l with
      | nil => rfl
      | cons z l ih => simp only [List.map_cons, List.sum_cons, ih, List.length_cons, sz]; omega
    rw [this]
theorem tup_sz {l : List T} {k : Nat} (h : ∀ t ∈ l, Dt t = true ∧ sz t ≤ k) : Dt (.tup l) = true ∧ sz (.tup l) ≤ 1 + l.length * k := by
  constructor
  · simp only [Dt]
    exact Dts_all.mpr fun t ht => (h t ht).1
  · show 1 + szs l ≤ _
    rw [szs_sum]
    have : ∀ l : List T, (∀ t ∈ l, Dt t = true ∧ sz t ≤ k) → (l.map sz).sum ≤ l.length * k := fun l => by
      induction l with
      | nil => simp
      | cons t l ih =>
        intro h
        have a := (h t List.mem_cons_self).2
        have b := ih fun x hx => h x (List.mem_cons_of_mem _ hx)
        simp only [List.map_cons, List.sum_cons, List.length_cons, Nat.succ_mul]
        omega
    have := this l h
    omega
theorem sz_B8 {b : Brd} {r c : Nat} (W : KB b r c) : Dt (eB b) = true ∧ sz (eB b) ≤ 10200 := by
  obtain ⟨p1, p2, p3, p4⟩ := W.pos
  have hl := W.len
  have := tup_sz (l := b.map eR) (k := 101) fun t ht => by
    obtain ⟨q, hq, rfl⟩ := List.mem_map.mp ht
    have h := sz_eR q
    have hq' : q.length = c := (W.wb.rect q hq).trans W.wid
    exact ⟨h.1, by rw [h.2]; omega⟩
  refine ⟨this.1, Nat.le_trans this.2 ?_⟩
  rw [List.length_map, hl]
  have : r * 101 ≤ 100 * 101 := Nat.mul_le_mul_right _ p3
  omega
theorem same_B {b : Brd} {r c : Nat} (W : KB b r c) {S : Sto} : F__law_same_v3 [eB b, eB b] S = .ok (.bl true) S := same36 (sz_B8 W).1 (Nat.le_trans (sz_B8 W).2 (by omega))
theorem same_lk (o : Option Nat) {S : Sto} : F__law_same_v3 [lkT o, lkT o] S = .ok (.bl true) S := by
  cases o with
  | none => exact same36 rfl (by simp [lkT, sz])
  | some i => exact same36 (by simp [lkT, Dt, Dts]) (by simp [lkT, sz, szs])
theorem same_bl (x : Bool) {S : Sto} : F__law_same_v3 [.bl x, .bl x] S = .ok (.bl true) S := same36 rfl (by simp [sz])
theorem same_int (x : Int) {S : Sto} : F__law_same_v3 [.int x, .int x] S = .ok (.bl true) S := same36 rfl (by simp [sz])
theorem lst_cons (a y : Brd) (l : List Brd) : lstB a (y :: l) = lstB (if bLt y a = true then y else a) l := rfl
theorem lst_hd (b : Brd) (l l' : List Brd) (h : l = b :: l') : lstB b l = lstB b l' := by rw [h, lst_cons, ite_self]
theorem alone_loop {S : Sto} {t0 E : T} (all : List T) : ∀ (xs : List Brd) (a : Brd) (x3 : Option T), KK a → (∀ x ∈ xs, KK x) → ∃ y3, forL none all (gN 3) L__law_alone_0 (xs.map eB) [some t0, some E, some (eB a), x3, none] S = .nx [some t0, some E, some (eB (lstB a xs)), y3, none] S
  | [], a, x3, _, _ => ⟨x3, by rw [List.map_nil, forL, if_pos (show Still none all S from trivial)]; rfl⟩
  | y :: xs, a, x3, ha, hx => by
    have hy := hx y List.mem_cons_self
    have ft := fLT_B hy ha (S := S)
    have hs : lstB a (y :: xs) = lstB (if bLt y a = true then y else a) xs := rfl
    rw [hs]
    by_cases c : bLt y a = true
    · rw [if_pos c]
      rw [c] at ft
      obtain ⟨y3, q⟩ := alone_loop all xs y (some (eB y)) hy fun z hz => hx z (List.mem_cons_of_mem _ hz)
      refine ⟨y3, ?_⟩
      rw [List.map_cons, forL, if_pos (show Still none all S from trivial), gN_eq]
      have hb : L__law_alone_0 [some t0, some E, some (eB a), some (eB y), none] S = .nx [some t0, some E, some (eB y), some (eB y), none] S := by simp [L__law_alone_0, ft]
      simp only [List.set_cons_succ, List.set_cons_zero]
      rw [hb]
      exact q
    · rw [if_neg c]
      rw [Bool.not_eq_true] at c
      rw [c] at ft
      obtain ⟨y3, q⟩ := alone_loop all xs a (some (eB y)) ha fun z hz => hx z (List.mem_cons_of_mem _ hz)
      refine ⟨y3, ?_⟩
      rw [List.map_cons, forL, if_pos (show Still none all S from trivial), gN_eq]
      have hb : L__law_alone_0 [some t0, some E, some (eB a), some (eB y), none] S = .nx [some t0, some E, some (eB a), some (eB y), none] S := by simp [L__law_alone_0, ft]
      simp only [List.set_cons_succ, List.set_cons_zero]
      rw [hb]
      exact q
section
variable {b : Brd} {r c : Nat} {S : Sto} (W : KB b r c)
include W
theorem same_e8 : F__law_same_v3 [.tup ((e8 b).map eB), .tup ((e8 b).map eB)] S = .ok (.bl true) S := by
  have := tup_sz (l := (e8 b).map eB) (k := 10200) fun t ht => by
    obtain ⟨x, hx, rfl⟩ := List.mem_map.mp ht
    obtain ⟨r', c', h⟩ := e8_KB W x hx
    exact sz_B8 h
  exact same36 this.1 (Nat.le_trans this.2 (by rw [List.length_map]; show 1 + 8 * 10200 ≤ _; omega))
theorem alone_ok : F__law_alone [eB b] S = .ok (.bl true) S := by
  have e := law_eight_ok (S := S) W
  have eb := eight_boards_ok (S := S) W
  have lfm := least_form_ok (S := S) W
  have sy := symmetry_ok (S := S) W
  have lk := likeness_ok (S := S) W W.ks
  rw [lk_self] at lk
  have s1 := same_e8 (S := S) W
  obtain ⟨r', c', hlf⟩ := e8_KB W _ (lf_mem b)
  have s2 := same_B hlf (S := S)
  have s3 := same_int (((e8 b).countP fun x => decide (x = b) : Nat)) (S := S)
  have s4 := same_lk (some 0) (S := S)
  have hkk := e8_KK W
  have x0 : fIx (.lst ((e8 b).map eB)) (.int 0) S = .ok (eB b) S := by rw [fIx_lst, atI_0]; rfl
  -- the least
  obtain ⟨x3, q1⟩ := alone_loop (S := S) (t0 := eB b) (E := .lst ((e8 b).map eB)) ((e8 b).map eB) (e8 b) b none W.ks hkk
  have hl0 : lstB b (e8 b) = lf b := lst_hd b _ _ rfl
  rw [hl0] at q1
  have hC : C__law_alone_1 [some (eB b), some (.lst ((e8 b).map eB)), some (eB (lf b)), x3, none] S = .ok (.nlst (((e8 b).filter fun x => decide (x = b)).map fun _ => T.int 1)) S := by
    unfold C__law_alone_1
    rw [dLc_eq _ _ _ _ _ _ _ (dIt_eq (S1 := S) (t := .lst ((e8 b).map eB)) (src := none) (ts := (e8 b).map eB) (by simp) rfl)]
    rw [lcL_map (S := S) (src := none) trivial eB (fun x => decide (x = b)) (fun _ => T.int 1) (e8 b) [] ?_ (by rw [PySem.sizeLine_eq]; show 0 + 8 ≤ _; omega)]
    · rw [List.nil_append]
    · intro x hx
      have fe := fEq_B (n := false) (hkk x hx) W.ks (S := S)
      generalize (e8 b).map eB = E
      refine ⟨[some (eB b), some (.lst E), some (eB (lf b)), some (eB x), none], by simp [wipeT], ?_, fun _ => ⟨T.int 1, by simp, rfl⟩⟩
      simp [fe]
  have hcl : (((e8 b).filter fun x => decide (x = b)).map fun _ => T.int 1).length = (e8 b).countP fun x => decide (x = b) := by rw [List.length_map, List.countP_eq_length_filter]
  have hc16 : (((e8 b).filter fun x => decide (x = b)).map fun _ => T.int 1).length ≤ 16777216 := by
    rw [List.length_map]
    exact Nat.le_trans (List.length_filter_le _ _) (by show 8 ≤ _; omega)
  have hd := dFor_eq (dIt (dVar 1)) (gN 3) L__law_alone_0 [some (eB b), some (.lst ((e8 b).map eB)), some (eB b), none, none] S (dIt_eq (S1 := S) (t := .lst ((e8 b).map eB)) (src := none) (ts := (e8 b).map eB) (by simp) rfl)
  have t0 : T.tup [.bl false, .int 0] = lkT (some 0) := rfl
  have cnt : ∀ n : Nat, n = (e8 b).countP (fun x => decide (x = b)) → True := fun _ _ => trivial
  generalize (((e8 b).filter fun x => decide (x = b)).map fun _ => T.int 1) = CL at hC hcl hc16
  generalize ((e8 b).countP fun x => decide (x = b)) = N at sy s3 hcl
  have e8l : ((e8 b).map eB).length ≤ 16777216 := by show 8 ≤ _; omega
  generalize (e8 b).map eB = E at e eb s1 x0 q1 hC hd e8l
  have i0 : (dSet 1 (dOwn 1 F__law_eight (dCons (dVar 0) dNil))) [some (eB b), none, none, none, none] S = .nx [some (eB b), some (.lst E), none, none, none] S := by simp [e]
  have i1 : (dSet 2 (dBin fIx (dVar 1) (dC (.int 0)))) [some (eB b), some (.lst E), none, none, none] S = .nx [some (eB b), some (.lst E), some (eB b), none, none] S := by simp [x0, -fIx_lst]
  have i3 : (dSet 4 (dCall fLen (dCons C__law_alone_1 dNil))) [some (eB b), some (.lst E), some (eB (lf b)), x3, none] S = .nx [some (eB b), some (.lst E), some (eB (lf b)), x3, some (.int (N : Nat))] S := by
    simp [hC, hc16, hcl]
    try omega
  have i4 : (dIf (dOr (dNot (dTru (dOwn 2 F__law_same_v3 (dCons (dOwn 1 F_eight_boards (dCons (dVar 0) dNil)) (dCons (dCall fTuple (dCons (dVar 1) dNil)) dNil))))) (dNot (dTru (dOwn 2 F__law_same_v3 (dCons (dOwn 1 F_least_form (dCons (dVar 0) dNil)) (dCons (dVar 2) dNil)))))) (dRet (dC (.bl false))) dNext) [some (eB b), some (.lst E), some (eB (lf b)), x3, some (.int (N : Nat))] S = .nx [some (eB b), some (.lst E), some (eB (lf b)), x3, some (.int (N : Nat))] S := by
    simp [eb, s1, lfm, s2]
  have i5 : (dRet (dAndV (dOwn 2 F__law_same_v3 (dCons (dOwn 1 F_symmetry_count (dCons (dVar 0) dNil)) (dCons (dVar 4) dNil))) (dOwn 2 F__law_same_v3 (dCons (dOwn 2 F_likeness (dCons (dVar 0) (dCons (dVar 0) dNil))) (dCons (dTup (dCons (dC (.bl false)) (dCons (dC (.int 0)) dNil))) dNil))))) [some (eB b), some (.lst E), some (eB (lf b)), x3, some (.int (N : Nat))] S = .rt (.bl true) S := by
    have fl : fz (lkT (some 0)) = lkT (some 0) := rfl
    simp [sy, s3, lk, t0, s4, fl]
  unfold F__law_alone
  rw [dFun_eq (np := 1) (n := 5) (ts := [eB b]) rfl]
  show gcR S (b__law_alone [some (eB b), none, none, none, none] S) = _
  unfold b__law_alone
  rw [dSeq_eq, i0, RS.seq_nx, dSeq_eq, i1, RS.seq_nx, dSeq_eq, hd, q1, RS.seq_nx, dSeq_eq, i3, RS.seq_nx, dSeq_eq, i4, RS.seq_nx, i5, gcR_rt, gcT_same rfl]
theorem asked_ok {o : Brd} {r' c' : Nat} (W' : KB o r' c') : F__law_asked_v4 [eB b, eB o] S = .ok (.bl true) S := by
  have l1 := law_likeness_ok (S := S) W W'.ks
  have l2 := law_likeness_ok (S := S) W' W.ks
  have k1 := likeness_ok (S := S) W W'.ks
  have k2 := likeness_ok (S := S) W' W.ks
  have a1 := are_alike_ok (S := S) W W'
  have a2 := are_alike_ok (S := S) W' W
  have sw : decide (b ∈ e8 o) = decide (o ∈ e8 b) := decide_eq_decide.mpr ⟨fun h => (alike_iff W.gb W'.gb).mp ((alike_iff W'.gb W.gb).mpr h).symm, fun h => (alike_iff W'.gb W.gb).mp ((alike_iff W.gb W'.gb).mpr h).symm⟩
  rw [sw] at a2
  have hs := lk_some (a := b) (b := o)
  rw [← hs] at a1 a2
  have s1 := same_lk (lkG b o) (S := S)
  have s2 := same_lk (lkG o b) (S := S)
  have s3 := same_bl (lkG b o).isSome (S := S)
  have fn : fIs true (lkT (lkG b o)) .non S = .ok (.bl (lkG b o).isSome) S := by
    cases lkG b o <;> rfl
  have f1 : fz (lkT (lkG b o)) = lkT (lkG b o) := by cases lkG b o <;> rfl
  have f2 : fz (lkT (lkG o b)) = lkT (lkG o b) := by cases lkG o b <;> rfl
  generalize (lkG b o).isSome = B at a1 a2 s3 fn
  generalize lkT (lkG b o) = T1 at l1 k1 s1 fn f1
  generalize lkT (lkG o b) = T2 at l2 k2 s2 f2
  simp [F__law_asked_v4, dFun_eq, b__law_asked_v4, l1, l2, k1, k2, a1, a2, s1, s2, s3, fn, f1, f2]
  rw [gcT_same rfl]
end
end Bd

/-! the bowl -/
namespace Bd
open PySem PySem.Spec L2 Dn Pk
def Ck (S S' : Sto) (gs : List Int) (m : Int) : Prop := gs.length ≤ 1000 ∧ S'.length = S.length ∧ S'[0]? = some (.lst (gs.map T.int)) ∧ S'[1]? = some (.lst [.ref 0, .int m]) ∧ ∀ i : Nat, i ≠ 0 → i ≠ 1 → S'[i]? = S[i]?
theorem Ck.ch {S S' : Sto} {gs : List Int} {m : Int} (h : Ck S S' gs m) : Ch S S' := by
  obtain ⟨h1, h2, h3, h4, h5⟩ := h
  exact ⟨h2, ⟨m, gs, h1, h3, h4⟩, h5⟩
theorem Ck.set0 {S S' : Sto} {gs gs' : List Int} {m : Int} (h : Ck S S' gs m) (l : gs'.length ≤ 1000) : Ck S (S'.set 0 (.lst (gs'.map T.int))) gs' m := by
  obtain ⟨h1, h2, h3, h4, h5⟩ := h
  have l0 := (List.getElem?_eq_some_iff.mp h3).1
  exact ⟨l, by simp [h2], List.getElem?_set_self l0, by rw [List.getElem?_set_ne (by omega)]; exact h4, fun i a b => by rw [List.getElem?_set_ne (by omega)]; exact h5 i a b⟩
theorem Ck.set1 {S S' : Sto} {gs : List Int} {m m' : Int} (h : Ck S S' gs m) : Ck S (S'.set 1 (.lst [.ref 0, .int m'])) gs m' := by
  obtain ⟨h1, h2, h3, h4, h5⟩ := h
  have l0 := (List.getElem?_eq_some_iff.mp h4).1
  exact ⟨h1, by simp [h2], by rw [List.getElem?_set_ne (by omega)]; exact h3, List.getElem?_set_self l0, fun i a b => by rw [List.getElem?_set_ne (by omega)]; exact h5 i a b⟩
theorem scoop_ok {S : Sto} (hw : Cw S) {n : Int} (n0 : 0 < n) (hn : n < 2 ^ 60) : ∃ told S', F__law_scoop [.ref 1, .int n] S = .ok (.int told) S' ∧ 0 ≤ told ∧ told < n ∧ Ch S S' := by
  obtain ⟨m, gs, hsz, h1, h2⟩ := hw
  have lg : n.natAbs.log2 < 9000 := Nat.lt_of_lt_of_le (PySem.Flt.log2_lt_of (k := 60) (by omega) (by omega)) (by omega)
  let sh := fun (x : Option T) => [some (T.ref 1), some (T.int n), x]
  obtain ⟨sl', S1, q1, rfl, gs', k1, hz⟩ := while_inv (c := (dAnd (dTest (dBin fGT (dCall fLen (dCons (dBin fIx (dVar 0) (dC (.int 0))) dNil)) (dC (.int 0)))) (dTest (dBin (fEq false) (dBin fIx (dBin fIx (dVar 0) (dC (.int 0))) (dC (.int 0))) (dC (.int 0)))))) (b := L__law_scoop_0)
    (fun k sl S' => ∃ gs' : List Int, k = gs'.length ∧ Ck S S' gs' m ∧ sl = sh none)
    (fun sl S' => sl = sh none ∧ ∃ gs' : List Int, Ck S S' gs' m ∧ ∀ g r, gs' = g :: r → g ≠ 0) (by
      rintro k sl S' ⟨gs', rfl, tk, rfl⟩
      obtain ⟨t1, t2, t3, t4, t5⟩ := tk
      have g1 : fIx (.ref 1) (.int 0) S' = .ok (.ref 0) S' := by rw [fIx_ref t4]; rfl
      cases gs' with
      | nil =>
        refine .inr ⟨S', ?_, rfl, [], ⟨t1, t2, t3, t4, t5⟩, fun g r e => by cases e⟩
        simp [sh, g1, fLen_ref t3]
      | cons g r =>
        simp only [List.map_cons] at t3
        by_cases hg : g = 0
        · refine .inl ⟨S', r.length, sh none, S'.set 0 (.lst (r.map T.int)), ?_, by simp, .inl ?_, r, rfl, ?_, rfl⟩
          · simp [sh, g1, fLen_ref t3, fIx_ref t3, hg]
            try omega
          · have p := fPopAt_ref (j := 0) t3 (by simp) (by simp at t1 ⊢; omega)
            simp only [List.eraseIdx_cons_zero, List.getElem_cons_zero] at p
            simp [L__law_scoop_0, sh, g1, mTy_ref t3]
            rw [show ((0 : Nat) : Int) = 0 from rfl] at p
            simp [p]
          · exact Ck.set0 (gs := g :: r) ⟨t1, t2, by simpa using t3, t4, t5⟩ (by simp at t1; omega)
        · refine .inr ⟨S', ?_, rfl, g :: r, ⟨t1, t2, by simpa using t3, t4, t5⟩, fun g' r' e => by cases e; exact hg⟩
          simp [sh, g1, fLen_ref t3, fIx_ref t3, hg]
          try omega)
    FUEL gs.length (sh none) S ⟨gs, rfl, ⟨hsz, rfl, h1, h2, fun _ _ _ => rfl⟩, rfl⟩ (by unfold FUEL; omega)
  have k1' := k1
  obtain ⟨t1, t2, t3, t4, t5⟩ := k1
  have g1 : fIx (.ref 1) (.int 0) S1 = .ok (.ref 0) S1 := by rw [fIx_ref t4]; rfl
  have g1' : fIx (.ref 1) (.int 1) S1 = .ok (.int m) S1 := by rw [fIx_ref t4]; rfl
  have hwl : (dWhile (dAnd (dTest (dBin fGT (dCall fLen (dCons (dBin fIx (dVar 0) (dC (.int 0))) dNil)) (dC (.int 0)))) (dTest (dBin (fEq false) (dBin fIx (dBin fIx (dVar 0) (dC (.int 0))) (dC (.int 0))) (dC (.int 0))))) L__law_scoop_0) (sh none) S = .nx (sh none) S1 := q1
  cases gs' with
  | nil =>
    have u := (k1'.set1 (m' := (m * 16807 + 1409) % 2147483629)).ch
    have e1 : (S1.set 1 (.lst [.ref 0, .int ((m * 16807 + 1409) % 2147483629)]))[1]? = some (.lst [.ref 0, .int ((m * 16807 + 1409) % 2147483629)]) := List.getElem?_set_self (List.getElem?_eq_some_iff.mp t4).1
    have e2 : fIx (.ref 1) (.int 1) (S1.set 1 (.lst [.ref 0, .int ((m * 16807 + 1409) % 2147483629)])) = .ok (.int ((m * 16807 + 1409) % 2147483629)) (S1.set 1 (.lst [.ref 0, .int ((m * 16807 + 1409) % 2147483629)])) := by rw [fIx_ref e1]; rfl
    refine ⟨((m * 16807 + 1409) % 2147483629 / 199) % n, _, ?_, Int.emod_nonneg _ (by omega), Int.emod_lt_of_pos _ n0, u⟩
    have p : dput S1 (.ref 1) (.int 1) (.int ((m * 16807 + 1409) % 2147483629)) = some (S1.set 1 (.lst [.ref 0, .int ((m * 16807 + 1409) % 2147483629)])) := dput_ref t4 (ixN_nat (m := 1) (by simp))
    have cm : CMulA m 16807 := .inl (.inr (by omega))
    unfold F__law_scoop
    rw [dFun_eq (np := 2) (n := 3) (ts := [.ref 1, .int n]) rfl]
    show gcR S (b__law_scoop (sh none) S) = _
    unfold b__law_scoop
    rw [dSeq_eq, hwl, RS.seq_nx]
    have l199 : Nat.log2 199 < 9000 := by decide +kernel
    simp [sh, g1, g1', fLen_ref t3, cm, p, e2, CDivW, n0, l199]
    rw [u.gcT (by simp)]
  | cons g r =>
    simp only [List.map_cons] at t3
    have u := (k1'.set0 (gs' := g / n :: r) (by simpa using t1)).ch
    have e1 : (S1.set 0 (.lst ((g / n :: r).map T.int)))[1]? = some (.lst [.ref 0, .int m]) := by rw [List.getElem?_set_ne (by omega)]; exact t4
    refine ⟨g % n, _, ?_, Int.emod_nonneg _ (by omega), Int.emod_lt_of_pos _ n0, u⟩
    have p : dput S1 (.ref 0) (.int 0) (.int (g / n)) = some (S1.set 0 (.lst ((g / n :: r).map T.int))) := dput_r0 t3
    unfold F__law_scoop
    rw [dFun_eq (np := 2) (n := 3) (ts := [.ref 1, .int n]) rfl]
    show gcR S (b__law_scoop (sh none) S) = _
    unfold b__law_scoop
    rw [dSeq_eq, hwl, RS.seq_nx]
    simp [sh, g1, fLen_ref t3, fIx_ref t3, CDivW, n0, lg, p]
    rw [show S1.set 0 (.lst (.int (g / n) :: r.map T.int)) = S1.set 0 (.lst ((g / n :: r).map T.int)) from rfl, u.gcT (by simp)]
theorem scoop_nat {S : Sto} (hw : Cw S) (X : Sto) {n : Nat} (h0 : 0 < n) (hn : n < 2 ^ 60) : ∃ (told : Nat) (S1 : Sto), F__law_scoop [.ref 1, .int n] (S ++ X) = .ok (.int told) (S1 ++ X) ∧ told < n ∧ Ch S S1 := by
  obtain ⟨told, S2, h1, h2, h3, h4⟩ := scoop_ok (hw.app X) (n := (n : Int)) (by omega) (by omega)
  obtain ⟨S1, rfl, h5⟩ := h4.split hw
  obtain ⟨k, rfl⟩ := Int.eq_ofNat_of_zero_le h2
  exact ⟨k, S1, h1, by omega, h5⟩
theorem scoop0 {S : Sto} (hw : Cw S) {n : Nat} (h0 : 0 < n) (hn : n < 2 ^ 60) : ∃ (told : Nat) (S1 : Sto), F__law_scoop [.ref 1, .int n] S = .ok (.int told) S1 ∧ told < n ∧ Ch S S1 := by
  have := scoop_nat hw [] h0 hn
  simpa using this
theorem bowl_ok {ns : List Int} (hl : ns.length ≤ 63) : ∃ (m : Int) (ds : List Int), ds.length ≤ 1000 ∧ F__law_bowl [.flst (ns.map T.int)] [] = .ok (.nlst [.ref 0, .int m]) [.lst (ds.map T.int)] := by
  obtain ⟨N, hN⟩ : ∃ N : Nat, N = min ns.length 59 := ⟨_, rfl⟩
  have hN1 : N ≤ ns.length := by omega
  have hN2 : N ≤ 59 := by omega
  have hix : ∀ i, i < ns.length → ∀ S : Sto, ∃ v : Int, fIx (.flst (ns.map T.int)) (.int (i : Nat)) S = .ok (.int v) S := fun i hi S => by
    refine ⟨ns[i], ?_⟩
    show ixR (atI (ns.map T.int) (i : Nat)) S = _
    rw [atI_n, List.getElem?_map, List.getElem?_eq_getElem hi]
    rfl
  have hlen : ∀ S : Sto, fLen [.flst (ns.map T.int)] S = .ok (.int (ns.length : Nat)) S := fun S => by
    show RE.ok (.int ((ns.map T.int).length : Nat)) S = _
    rw [List.length_map]
  generalize ns.map T.int = L at hix hlen ⊢
  let sh := fun (m : Int) (x y : Option T) => [some (T.flst L), some (T.ref 0), some (T.int m), x, y]
  have p1 : CPow 10 18 := by simp [CPow]
  have p2 : CPow 10 60 := by simp [CPow]
  have big : (0 : Int) < 10 ^ 60 * 10 ^ 60 * 10 ^ 60 * 10 ^ 60 * 10 ^ 60 := by decide +kernel
  simp only [Int.reducePow, Int.reduceMul] at big
  have c1 : CMulA (10 ^ 60) (10 ^ 60) := .inr (by decide +kernel)
  have c2 : CMulA (10 ^ 60 * 10 ^ 60) (10 ^ 60) := .inr (by decide +kernel)
  have c3 : CMulA (10 ^ 60 * 10 ^ 60 * 10 ^ 60) (10 ^ 60) := .inr (by decide +kernel)
  have c4 : CMulA (10 ^ 60 * 10 ^ 60 * 10 ^ 60 * 10 ^ 60) (10 ^ 60) := .inr (by decide +kernel)
  simp only [Int.reducePow, Int.reduceMul] at c1 c2 c3 c4
  obtain ⟨sl', S', q1, m, ds, x', y', rfl, rfl, hds⟩ := forL_inv (src := none) (all := (List.range N).map fun k => T.int (k : Nat)) (g := gN 3) (b := L__law_bowl_0) (fun k : Nat => T.int k)
    (fun xs sl S => ∃ (m : Int) (ds : List Int) (x y : Option T), sl = sh m x y ∧ S = [.lst (ds.map T.int)] ∧ ds.length + xs.length ≤ 100 ∧ ∀ x ∈ xs, x < ns.length) (fun _ _ _ _ => trivial) (by
      rintro i xs sl S ⟨m, ds, x, y, rfl, rfl, hlen, hx⟩
      rw [List.length_cons] at hlen
      have hi := hx i List.mem_cons_self
      obtain ⟨v, hv⟩ := hix i hi [.lst (ds.map T.int)]
      have g0 : ([MO.lst (ds.map T.int)] : Sto)[0]? = some (.lst (ds.map T.int)) := rfl
      have m1 : CMulA m 69621 := .inl (.inr (by omega))
      have m2 : CMulA 29 (i : Nat) := .inl (.inl (by omega))
      have hz : ds.length < 16777216 := by omega
      obtain ⟨a, ha⟩ : ∃ a, (if v < 0 then -v else v) = a := ⟨_, rfl⟩
      have m3 : ∀ z : Int, CMulA (z % 999979) 61 := fun z => .inl (.inr (by omega))
      have h0 : (dSet 4 (dCall fAbs (dCons (dCall fInt1 (dCons (dBin fIx (dVar 0) (dVar 3)) dNil)) dNil))) [some (T.flst L), some (T.ref 0), some (T.int m), some (.int (i : Nat)), y] [.lst (ds.map T.int)] = .nx [some (T.flst L), some (T.ref 0), some (T.int m), some (.int (i : Nat)), some (.int a)] [.lst (ds.map T.int)] := by
        rw [← ha]
        simp [hv]
      by_cases hb : (1000000000000000000 : Int) ≤ a
      · refine ⟨_, _, sh ((m * 69621 + a % 999979 * 61 + 29 * (i : Nat)) % 2147483629) (some (.int (i : Nat))) (some (.int a)), [.lst ((ds ++ [a % (10 ^ 60 * 10 ^ 60 * 10 ^ 60 * 10 ^ 60 * 10 ^ 60)]).map T.int)], gN_eq _, .inl ?_, _, ds ++ [a % (10 ^ 60 * 10 ^ 60 * 10 ^ 60 * 10 ^ 60 * 10 ^ 60)], _, _, rfl, rfl, by simp; omega, fun z hz => hx z (List.mem_cons_of_mem _ hz)⟩
        unfold L__law_bowl_0
        simp only [sh, List.set_cons_succ, List.set_cons_zero]
        rw [dSeq_eq, h0, RS.seq_nx]
        simp [m1, m2, m3, p1, p2, c1, c2, c3, c4, hb, mTy_ref g0, fAppend_ref g0, hz, big]
      · refine ⟨_, _, sh ((m * 69621 + a % 999979 * 61 + 29 * (i : Nat)) % 2147483629) (some (.int (i : Nat))) (some (.int a)), [.lst (ds.map T.int)], gN_eq _, .inl ?_, _, ds, _, _, rfl, rfl, by omega, fun z hz => hx z (List.mem_cons_of_mem _ hz)⟩
        unfold L__law_bowl_0
        simp only [sh, List.set_cons_succ, List.set_cons_zero]
        rw [dSeq_eq, h0, RS.seq_nx]
        simp [m1, m2, m3, p1, hb])
    (List.range N) (sh 6637 none none) [.lst []] ⟨6637, [], none, none, rfl, rfl, by simp; omega, fun x hx => by have := List.mem_range.mp hx; omega⟩
  refine ⟨m + 1, ds, by simp at hds; omega, ?_⟩
  have hr : dRng1 (dCons (dCall fMin2 (dCons (dCall fLen (dCons (dVar 0) dNil)) (dCons (dC (.int 59)) dNil))) dNil) (sh 6637 none none) [.lst []] = .ok none ((List.range N).map fun k => T.int (k : Nat)) [.lst []] := dRng1_eq (n := N) (by
    simp [sh, hlen]
    omega) (by omega)
  have hf := dFor_eq (dRng1 (dCons (dCall fMin2 (dCons (dCall fLen (dCons (dVar 0) dNil)) (dCons (dC (.int 59)) dNil))) dNil)) (gN 3) L__law_bowl_0 _ _ hr
  unfold F__law_bowl
  rw [dFun_eq (np := 1) (n := 5) (ts := [.flst L]) rfl]
  show gcR [] (b__law_bowl [some (T.flst L), none, none, none, none] []) = _
  unfold b__law_bowl
  have i0 : (dSetM 1 (dLst dNil)) [some (T.flst L), none, none, none, none] [] = .nx [some (T.flst L), some (T.ref 0), none, none, none] [.lst []] := by simp
  have i1 : (dSet 2 (dC (.int 6637))) [some (T.flst L), some (T.ref 0), none, none, none] [.lst []] = .nx (sh 6637 none none) [.lst []] := by simp [sh]
  rw [dSeq_eq, i0, RS.seq_nx, dSeq_eq, i1, RS.seq_nx, dSeq_eq, hf, q1, RS.seq_nx]
  simp [sh]
  rw [gcT_keep (by simp [T.lt])]
end Bd

/-! boards drawn out of the bowl -/
namespace Bd
open PySem PySem.Spec L2 Dn Pk
section
variable {S : Sto} {n : Nat} {G : List MO} {o o' l l' : MO} (hS : S.length = n)
include hS
theorem gx_get : (S ++ (o :: (G ++ [l])))[n + 1 + G.length]? = some l := by
  subst hS
  rw [List.getElem?_append_right (by omega), show S.length + 1 + G.length - S.length = G.length + 1 by omega, List.getElem?_cons_succ, List.getElem?_append_right (by simp)]
  simp
theorem gx_set : List.set (S ++ (o :: (G ++ [l]))) (n + 1 + G.length) l' = S ++ (o :: (G ++ [l'])) := by
  subst hS
  rw [List.set_append_right _ _ (by omega), show S.length + 1 + G.length - S.length = G.length + 1 by omega, List.set_cons_succ, List.set_append_right _ _ (by omega), Nat.sub_self]
  rfl
end
abbrev shD (r c h most n : Nat) (x7 x8 x9 x10 : Option T) : Sl := [some (.ref 1), some (.int r), some (.int c), some (.lst (KS.map T.str)), some (.int h), some (.int most), some (.ref n), x7, x8, x9, x10]
theorem KS_ix {a : Nat} (h : a < 8) (S : Sto) : ∃ z, z ∈ KS ∧ fIx (.lst (KS.map T.str)) (.int (a : Nat)) S = .ok (.str z) S := by
  have hl : a < KS.length := h
  refine ⟨KS[a], List.getElem_mem _, ?_⟩
  rw [fIx_lst, atI_n, List.getElem?_map, List.getElem?_eq_getElem hl]
  rfl
section
variable {r c h most n : Nat} {x7 x8 x9 x10 : Option T} {S X : Sto}
theorem at_ok (hm : most < 8) (hw : Cw S) : ∃ (a : Nat) (S1 : Sto), a < 8 ∧ Ch S S1 ∧ ∀ K : DS, (dSeq (dSet 10 (dOwn 2 F__law_scoop (dCons (dVar 0) (dCons (dC (.int 8)) dNil)))) (dSeq (dIf (dAnd (dTest (dBin (fEq false) (dVar 4) (dC (.int 1)))) (dTest (dBin (fEq false) (dVar 10) (dC (.int 0))))) (dSet 10 (dOwn 2 F__law_scoop (dCons (dVar 0) (dCons (dC (.int 8)) dNil)))) dNext) (dSeq (dIf (dAnd (dTest (dBin (fEq false) (dVar 4) (dC (.int 2)))) (dTest (dBin fGT (dOwn 2 F__law_scoop (dCons (dVar 0) (dCons (dC (.int 4)) dNil))) (dC (.int 0))))) (dSet 10 (dVar 5)) dNext) (dSeq (dIf (dTest (dBin (fEq false) (dVar 4) (dC (.int 3)))) (dSet 10 (dBin fIx (dTup (dCons (dC (.int 1)) (dCons (dC (.int 4)) (dCons (dC (.int 7)) dNil)))) (dOwn 2 F__law_scoop (dCons (dVar 0) (dCons (dC (.int 3)) dNil))))) dNext) (dSeq (dIf (dTest (dBin (fEq false) (dVar 4) (dC (.int 4)))) (dSet 10 (dBin fMul (dC (.int 3)) (dCall fInt1 (dCons (dBin fGT (dOwn 2 F__law_scoop (dCons (dVar 0) (dCons (dC (.int 6)) dNil))) (dC (.int 0))) dNil)))) dNext) (dSeq (dIf (dAnd (dTest (dBin (fEq false) (dVar 4) (dC (.int 5)))) (dTest (dBin (fEq false) (dOwn 2 F__law_scoop (dCons (dVar 0) (dCons (dC (.int 2)) dNil))) (dC (.int 0))))) (dSet 10 (dC (.int 0))) dNext) K)))))) (shD r c h most n x7 x8 x9 x10) (S ++ X) = K (shD r c h most n x7 x8 x9 (some (.int a))) (S1 ++ X) := by
  -- the first
  obtain ⟨a1, S1, e1, l1, w1⟩ := scoop_nat hw X (n := 8) (by omega) (by omega)
  replace e1 : F__law_scoop [.ref 1, .int 8] (S ++ X) = .ok (.int a1) (S1 ++ X) := e1
  have s0 : (dSet 10 (dOwn 2 F__law_scoop (dCons (dVar 0) (dCons (dC (.int 8)) dNil)))) (shD r c h most n x7 x8 x9 x10) (S ++ X) = .nx (shD r c h most n x7 x8 x9 (some (.int a1))) (S1 ++ X) := by simp [e1]
  obtain ⟨a2, S2, l2, w2, s1⟩ : ∃ (a : Nat) (S2 : Sto), a < 8 ∧ Ch S S2 ∧ (dIf (dAnd (dTest (dBin (fEq false) (dVar 4) (dC (.int 1)))) (dTest (dBin (fEq false) (dVar 10) (dC (.int 0))))) (dSet 10 (dOwn 2 F__law_scoop (dCons (dVar 0) (dCons (dC (.int 8)) dNil)))) dNext) (shD r c h most n x7 x8 x9 (some (.int a1))) (S1 ++ X) = .nx (shD r c h most n x7 x8 x9 (some (.int a))) (S2 ++ X) := by
    by_cases h1 : (h : Int) = 1
    · by_cases h2 : a1 = 0
      · obtain ⟨i, S2, e2, li, w2⟩ := scoop_nat w1.w X (n := 8) (by omega) (by omega)
        replace e2 : F__law_scoop [.ref 1, .int 8] (S1 ++ X) = .ok (.int i) (S2 ++ X) := e2
        exact ⟨i, S2, li, w1.trans w2, by simp [h1, h2, e2]⟩
      · exact ⟨a1, S1, l1, w1, by simp [h1, h2]⟩
    · exact ⟨a1, S1, l1, w1, by simp [h1]⟩
  obtain ⟨a3, S3, l3, w3, s2⟩ : ∃ (a : Nat) (S3 : Sto), a < 8 ∧ Ch S S3 ∧ (dIf (dAnd (dTest (dBin (fEq false) (dVar 4) (dC (.int 2)))) (dTest (dBin fGT (dOwn 2 F__law_scoop (dCons (dVar 0) (dCons (dC (.int 4)) dNil))) (dC (.int 0))))) (dSet 10 (dVar 5)) dNext) (shD r c h most n x7 x8 x9 (some (.int a2))) (S2 ++ X) = .nx (shD r c h most n x7 x8 x9 (some (.int a))) (S3 ++ X) := by
    by_cases h1 : (h : Int) = 2
    · obtain ⟨i, S3, e3, li, w3⟩ := scoop_nat w2.w X (n := 4) (by omega) (by omega)
      replace e3 : F__law_scoop [.ref 1, .int 4] (S2 ++ X) = .ok (.int i) (S3 ++ X) := e3
      by_cases h2 : 0 < i
      · exact ⟨most, S3, hm, w2.trans w3, by simp [h1, h2, e3]⟩
      · exact ⟨a2, S3, l2, w2.trans w3, by simp [h1, h2, e3]⟩
    · exact ⟨a2, S2, l2, w2, by simp [h1]⟩
  obtain ⟨a4, S4, l4, w4, s3⟩ : ∃ (a : Nat) (S4 : Sto), a < 8 ∧ Ch S S4 ∧ (dIf (dTest (dBin (fEq false) (dVar 4) (dC (.int 3)))) (dSet 10 (dBin fIx (dTup (dCons (dC (.int 1)) (dCons (dC (.int 4)) (dCons (dC (.int 7)) dNil)))) (dOwn 2 F__law_scoop (dCons (dVar 0) (dCons (dC (.int 3)) dNil))))) dNext) (shD r c h most n x7 x8 x9 (some (.int a3))) (S3 ++ X) = .nx (shD r c h most n x7 x8 x9 (some (.int a))) (S4 ++ X) := by
    by_cases h1 : (h : Int) = 3
    · obtain ⟨i, S4, e4, li, w4⟩ := scoop_nat w3.w X (n := 3) (by omega) (by omega)
      replace e4 : F__law_scoop [.ref 1, .int 3] (S3 ++ X) = .ok (.int i) (S4 ++ X) := e4
      obtain ⟨v, hv, fv⟩ : ∃ v : Nat, v < 8 ∧ ∀ S : Sto, fIx (.tup [.int 1, .int 4, .int 7]) (.int (i : Nat)) S = .ok (.int (v : Nat)) S := by
        obtain rfl | rfl | rfl : i = 0 ∨ i = 1 ∨ i = 2 := by omega
        · exact ⟨1, by omega, fun S => rfl⟩
        · exact ⟨4, by omega, fun S => rfl⟩
        · exact ⟨7, by omega, fun S => rfl⟩
      exact ⟨v, S4, hv, w3.trans w4, by simp [h1, e4, fv, -fIx_tup]⟩
    · exact ⟨a3, S3, l3, w3, by simp [h1]⟩
  obtain ⟨a5, S5, l5, w5, s4⟩ : ∃ (a : Nat) (S5 : Sto), a < 8 ∧ Ch S S5 ∧ (dIf (dTest (dBin (fEq false) (dVar 4) (dC (.int 4)))) (dSet 10 (dBin fMul (dC (.int 3)) (dCall fInt1 (dCons (dBin fGT (dOwn 2 F__law_scoop (dCons (dVar 0) (dCons (dC (.int 6)) dNil))) (dC (.int 0))) dNil)))) dNext) (shD r c h most n x7 x8 x9 (some (.int a4))) (S4 ++ X) = .nx (shD r c h most n x7 x8 x9 (some (.int a))) (S5 ++ X) := by
    by_cases h1 : (h : Int) = 4
    · obtain ⟨i, S5, e5, li, w5⟩ := scoop_nat w4.w X (n := 6) (by omega) (by omega)
      replace e5 : F__law_scoop [.ref 1, .int 6] (S4 ++ X) = .ok (.int i) (S5 ++ X) := e5
      have m0 : CMulA 3 0 := by decide
      have fi : ∀ (x : Bool) (S : Sto), fInt1 [.bl x] S = .ok (.int (if x then 1 else 0)) S := fun _ _ => rfl
      have m1 : CMulA 3 1 := by decide
      by_cases h2 : 0 < i
      · exact ⟨3, S5, by omega, w4.trans w5, by simp [h1, h2, e5, m1, fi]⟩
      · exact ⟨0, S5, by omega, w4.trans w5, by simp [h1, h2, e5, m0, fi]⟩
    · exact ⟨a4, S4, l4, w4, by simp [h1]⟩
  obtain ⟨a6, S6, l6, w6, s5⟩ : ∃ (a : Nat) (S6 : Sto), a < 8 ∧ Ch S S6 ∧ (dIf (dAnd (dTest (dBin (fEq false) (dVar 4) (dC (.int 5)))) (dTest (dBin (fEq false) (dOwn 2 F__law_scoop (dCons (dVar 0) (dCons (dC (.int 2)) dNil))) (dC (.int 0))))) (dSet 10 (dC (.int 0))) dNext) (shD r c h most n x7 x8 x9 (some (.int a5))) (S5 ++ X) = .nx (shD r c h most n x7 x8 x9 (some (.int a))) (S6 ++ X) := by
    by_cases h1 : (h : Int) = 5
    · obtain ⟨i, S6, e6, li, w6⟩ := scoop_nat w5.w X (n := 2) (by omega) (by omega)
      replace e6 : F__law_scoop [.ref 1, .int 2] (S5 ++ X) = .ok (.int i) (S6 ++ X) := e6
      by_cases h2 : i = 0
      · exact ⟨0, S6, by omega, w5.trans w6, by simp [h1, h2, e6]⟩
      · exact ⟨a5, S6, l5, w5.trans w6, by simp [h1, h2, e6]⟩
    · exact ⟨a5, S5, l5, w5, by simp [h1]⟩
  refine ⟨a6, S6, l6, w6, fun K => ?_⟩
  rw [dSeq_eq, s0, RS.seq_nx, dSeq_eq, s1, RS.seq_nx, dSeq_eq, s2, RS.seq_nx, dSeq_eq, s3, RS.seq_nx, dSeq_eq, s4, RS.seq_nx, dSeq_eq, s5, RS.seq_nx]
theorem cellD_ok (hm : most < 8) (hw : Cw S) {O : MO} {G : List MO} {ks : List Str} (hS : S.length = n) (hk : ks.length ≤ 1000) : ∃ z y S1, z ∈ KS ∧ Ch S S1 ∧
    L__law_board_v8_0 (shD r c h most n x7 (some (.ref (n + 1 + G.length))) x9 x10) (S ++ (O :: (G ++ [rwO ks]))) = .nx (shD r c h most n x7 (some (.ref (n + 1 + G.length))) x9 y) (S1 ++ (O :: (G ++ [rwO (ks ++ [z])]))) := by
  obtain ⟨a, S1, la, w, e⟩ := at_ok (r := r) (c := c) (h := h) (n := n) (x7 := x7) (x8 := some (.ref (n + 1 + G.length))) (x9 := x9) (x10 := x10) (X := O :: (G ++ [rwO ks])) hm hw
  obtain ⟨z, mz, fk⟩ := KS_ix la (S1 ++ (O :: (G ++ [rwO ks])))
  have g := gx_get (o := O) (G := G) (l := rwO ks) (w.len.trans hS)
  have p := gx_set (o := O) (G := G) (l := rwO ks) (l' := rwO (ks ++ [z])) (w.len.trans hS)
  have hz : ks.length < 16777216 := by omega
  refine ⟨z, some (.int (a : Nat)), S1, mz, w, ?_⟩
  unfold L__law_board_v8_0
  rw [e ((dExpr (dMeth "list" fAppend (dVar 8) (dCons (dBin fIx (dVar 3) (dVar 10)) dNil))))]
  have qa : fAppend (.ref (n + 1 + G.length)) [.str z] (S1 ++ (O :: (G ++ [rwO ks]))) = .ok .non (S1 ++ (O :: (G ++ [rwO (ks ++ [z])]))) := by
    rw [fAppend_ref g, if_pos (by simpa using hz), ← p]
    congr 2
    simp
  have mt : mTy (S1 ++ (O :: (G ++ [rwO ks]))) (.ref (n + 1 + G.length)) = some "list" := mTy_ref g
  generalize (S1 ++ (O :: (G ++ [rwO ks]))) = Y at fk qa mt ⊢
  simp [mt, fk, qa, -fIx_lst]
theorem rowD_ok (hm : most < 8) (hw : Cw S) {rs : List (List Str)} {G : List MO} (hS : S.length = n) (hc : c ≤ 100) (hrs : rs.length ≤ 1000) : ∃ ks x8' x9' x10' S1, ks.length = c ∧ (∀ z ∈ ks, z ∈ KS) ∧ Ch S S1 ∧
    L__law_board_v8_1 (shD r c h most n x7 x8 x9 x10) (S ++ (.lst (rs.map eR) :: G)) = .nx (shD r c h most n x7 x8' x9' x10') (S1 ++ (.lst ((rs ++ [ks]).map eR) :: (G ++ [rwO ks]))) := by
  obtain ⟨O, hO⟩ : ∃ O : MO, O = .lst (rs.map eR) := ⟨_, rfl⟩
  obtain ⟨sl', S', q1, ks, S1, x', y', rfl, w1, rfl, hks, hl⟩ := forL_inv (src := none) (all := (List.range c).map fun k => T.int (k : Nat)) (g := gN 9) (b := L__law_board_v8_0) (fun k : Nat => T.int k)
    (fun xs sl St => ∃ (ks : List Str) (S1 : Sto) (x y : Option T), St = S1 ++ (O :: (G ++ [rwO ks])) ∧ Ch S S1 ∧ sl = shD r c h most n x7 (some (.ref (n + 1 + G.length))) x y ∧ (∀ z ∈ ks, z ∈ KS) ∧ ks.length + xs.length = c) (fun _ _ _ _ => trivial) (by
      rintro k xs sl St ⟨ks, S1, x, y, rfl, w1, rfl, hks, hl⟩
      rw [List.length_cons] at hl
      obtain ⟨z, y', S2, mz, w2, e⟩ := cellD_ok (r := r) (c := c) (h := h) (n := n) (x7 := x7) (x9 := some (.int (k : Nat))) (x10 := y) hm w1.w (O := O) (G := G) (ks := ks) (w1.len.trans hS) (by omega)
      refine ⟨_, _, _, _, gN_eq _, .inl e, ks ++ [z], S2, _, _, rfl, w1.trans w2, rfl, fun u hu => ?_, by simp; omega⟩
      rcases List.mem_append.mp hu with q | q
      · exact hks u q
      · rw [List.mem_singleton.mp q]; exact mz)
    (List.range c) (shD r c h most n x7 (some (.ref (n + 1 + G.length))) x9 x10) (S ++ (O :: (G ++ [rwO []]))) ⟨[], S, _, _, rfl, .refl hw, rfl, by simp, by simp⟩
  refine ⟨ks, some (.ref (n + 1 + G.length)), x', y', S1, by simpa using hl, hks, w1, ?_⟩
  rw [← hO]
  have len0 : (S ++ (O :: G)).length = n + 1 + G.length := by simp [hS]; omega
  have hf := dFor_eq (dRng1 (dCons (dVar 2) dNil)) (gN 9) L__law_board_v8_0 (shD r c h most n x7 (some (.ref (n + 1 + G.length))) x9 x10) (S ++ (O :: (G ++ [rwO []]))) (dRng1_eq (n := c) (S1 := S ++ (O :: (G ++ [rwO []]))) (by simp) (by omega))
  have s1 : (dSetM 8 (dLst dNil)) (shD r c h most n x7 x8 x9 x10) (S ++ (O :: G)) = .nx (shD r c h most n x7 (some (.ref (n + 1 + G.length))) x9 x10) (S ++ (O :: (G ++ [rwO []]))) := by
    have : ∀ Y : Sto, Y.length = n + 1 + G.length → (dSetM 8 (dLst dNil)) (shD r c h most n x7 x8 x9 x10) Y = .nx (shD r c h most n x7 (some (.ref (n + 1 + G.length))) x9 x10) (Y ++ [.lst []]) := fun Y hY => by simp [hY]
    rw [this _ len0]
    simp
  unfold L__law_board_v8_1
  rw [dSeq_eq, s1, RS.seq_nx, dSeq_eq, hf, q1, RS.seq_nx]
  have g := bx_tl (o := O) (X := G ++ [rwO ks]) (w1.len.trans hS)
  have gl := gx_get (o := O) (G := G) (l := rwO ks) (w1.len.trans hS)
  have p := bx_tls (o := O) (o' := .lst ((rs ++ [ks]).map eR)) (X := G ++ [rwO ks]) (w1.len.trans hS)
  have qa : fAppend (.ref n) [eR ks] (S1 ++ (O :: (G ++ [rwO ks]))) = .ok .non (S1 ++ (.lst ((rs ++ [ks]).map eR) :: (G ++ [rwO ks]))) := by
    subst hO
    have hz : rs.length < 16777216 := by omega
    have e : MO.lst (rs.map eR ++ [eR ks]) = .lst ((rs ++ [ks]).map eR) := by rw [List.map_append]; rfl
    rw [fAppend_ref g, if_pos (by simpa using hz), e, p]
  have mt : mTy (S1 ++ (O :: (G ++ [rwO ks]))) (.ref n) = some "list" := by rw [hO] at g ⊢; exact mTy_ref g
  have ft : fTuple [.ref (n + 1 + G.length)] (S1 ++ (O :: (G ++ [rwO ks]))) = .ok (eR ks) (S1 ++ (O :: (G ++ [rwO ks]))) := by
    rw [fTuple_ref gl]
    simp [eR]
  generalize (S1 ++ (O :: (G ++ [rwO ks]))) = Y at mt qa ft ⊢
  simp [mt, ft, qa]
end
theorem KS_sum : ∀ l : List Str, (∀ k ∈ l, k ∈ KS) → (l.map fun x : Str => x.length).sum ≤ 3 * l.length := fun l => by
  induction l with
  | nil => simp
  | cons k l ih =>
    intro h
    have a := KS_len k (h k List.mem_cons_self)
    have := ih fun x hx => h x (List.mem_cons_of_mem _ hx)
    simp only [List.map_cons, List.sum_cons, List.length_cons]
    omega
def jn1 (q : List Str) : Str := Sx (q.flatMap tl)
theorem jn1_len (q : List Str) : (jn1 q).length = (q.map fun x : Str => x.length).sum := by
  unfold jn1
  rw [len_Sx, List.length_flatMap]
  simp only [len_tl]
def jnB (b : Brd) : Str := Sx ((b.map jn1).flatMap tl)
theorem fJ1 {t : T} {S : Sto} {q : List Str} (h : seqOf S t = some (q.map T.str)) (hl : q.length ≤ 1000) (hk : ∀ k ∈ q, k ∈ KS) : fJoin (.str "") [t] S = .ok (.str (jn1 q)) S := fJoin0 h (Nat.le_trans (KS_sum q hk) (by omega))
theorem fJB {t : T} {S : Sto} {b : Brd} (h : seqOf S t = some ((b.map jn1).map T.str)) (hl : b.length ≤ 1000) (hw : ∀ q ∈ b, q.length ≤ 1000) (hk : ∀ q ∈ b, ∀ k ∈ q, k ∈ KS) : fJoin (.str "") [t] S = .ok (.str (jnB b)) S := fJoin0 h (by
  have : ∀ b : Brd, (∀ q ∈ b, q.length ≤ 1000) → (∀ q ∈ b, ∀ k ∈ q, k ∈ KS) → ((b.map jn1).map fun x : Str => x.length).sum ≤ 3000 * b.length := fun b => by
    induction b with
    | nil => simp
    | cons q b ih =>
      intro hw hk
      have a := KS_sum q (hk q List.mem_cons_self)
      have a2 := hw q List.mem_cons_self
      rw [← jn1_len] at a
      have := ih (fun x hx => hw x (List.mem_cons_of_mem _ hx)) (fun x hx => hk x (List.mem_cons_of_mem _ hx))
      simp only [List.map_cons, List.sum_cons, List.length_cons]
      omega
  have := this b hw hk
  omega)
theorem joinC {x : Nat} {b : Brd} {ci : DI} {src : Option Nat} {sl : Sl} {S : Sto} (hci : ci sl S = .ok src (b.map eR) S) (hst : Still src (b.map eR) S) (hx : x < sl.length) (hl : b.length ≤ 1000) (hw : ∀ q ∈ b, q.length ≤ 1000) (hk : ∀ q ∈ b, ∀ k ∈ q, k ∈ KS) : (dLc ci (gN x) dYes (dMeth "str" fJoin (dC (.str "")) (dCons (dVar x) dNil)) [x]) sl S = .ok (.nlst ((b.map jn1).map T.str)) S := by
  rw [dLc_eq _ _ _ _ _ _ _ hci]
  rw [lcL_map hst eR (fun _ => true) (fun q => T.str (jn1 q)) b [] ?_ (by rw [PySem.sizeLine_eq]; simp; omega)]
  · rw [List.nil_append, List.filter_eq_self.mpr (fun _ _ => rfl), List.map_map]
    rfl
  · intro q hq
    have hj := fJ1 (t := eR q) (S := S) (q := q) rfl (hw q hq) (hk q hq)
    have hm : mTy S (.str "") = some "str" := rfl
    refine ⟨_, gN_eq _, rfl, fun _ => ⟨.str (jn1 q), ?_, rfl⟩⟩
    simp only [wipeT, dMeth_eq, dC_eq, RE.bind_ok, fz_str, hm, if_true, dCons_eq, dVar_eq, dNil_eq]
    rw [List.getElem?_set_self (by simpa [wipeT] using hx)]
    simp only [varR_some, dNil_eq, RE.consA_ok, RA.cons_ok, RA.bind_ok, fz_eR', hj]
end Bd

/-! boards drawn, boards changed -/
namespace Bd
open PySem PySem.Spec L2 Dn Pk
theorem KB.row_len {b : Brd} {r c : Nat} (W : KB b r c) : ∀ q ∈ b, q.length = c := fun q hq => (W.wb.rect q hq).trans W.wid
theorem itOf_ref {n : Nat} {S : Sto} {ts : List T} (g : S[n]? = some (.lst ts)) : itOf S (.ref n) = some (some n, ts) := by
  unfold itOf
  simp only [g]
theorem board8_ok {S : Sto} (hw : Cw S) {r c : Nat} (h0 : 0 < r) (hc : 0 < c) (r100 : r ≤ 100) (c100 : c ≤ 100) : ∃ b S1, F__law_board_v8 [.ref 1, .int r, .int c] S = .ok (eB b) S1 ∧ Ch S S1 ∧ KB b r c := by
  obtain ⟨h, S1, e1, l1, w1⟩ := scoop0 hw (n := 7) (by omega) (by omega)
  replace e1 : F__law_scoop [.ref 1, .int 7] S = .ok (.int h) S1 := e1
  obtain ⟨most, S2, e2, l2, w2⟩ := scoop0 w1.w (n := 8) (by omega) (by omega)
  replace e2 : F__law_scoop [.ref 1, .int 8] S1 = .ok (.int most) S2 := e2
  obtain ⟨n, hn⟩ : ∃ n, S2.length = n := ⟨_, rfl⟩
  have i0 : (dSet 3 (dLst (dCons (dC (.str "")) (dCons (dC (.str "d")) (dCons (dC (.str "ds")) (dCons (dC (.str "dsu")) (dCons (dC (.str "du")) (dCons (dC (.str "s")) (dCons (dC (.str "su")) (dCons (dC (.str "u")) dNil)))))))))) [some (.ref 1), some (.int r), some (.int c), none, none, none, none, none, none, none, none] S = .nx [some (.ref 1), some (.int r), some (.int c), some (.lst (KS.map T.str)), none, none, none, none, none, none, none] S := by
    simp
    rfl
  have i1 : (dSet 4 (dOwn 2 F__law_scoop (dCons (dVar 0) (dCons (dC (.int 7)) dNil)))) [some (.ref 1), some (.int r), some (.int c), some (.lst (KS.map T.str)), none, none, none, none, none, none, none] S = .nx [some (.ref 1), some (.int r), some (.int c), some (.lst (KS.map T.str)), some (.int h), none, none, none, none, none, none] S1 := by
    generalize KS.map T.str = K
    simp [e1]
  have i2 : (dSet 5 (dOwn 2 F__law_scoop (dCons (dVar 0) (dCons (dC (.int 8)) dNil)))) [some (.ref 1), some (.int r), some (.int c), some (.lst (KS.map T.str)), some (.int h), none, none, none, none, none, none] S1 = .nx [some (.ref 1), some (.int r), some (.int c), some (.lst (KS.map T.str)), some (.int h), some (.int most), none, none, none, none, none] S2 := by
    generalize KS.map T.str = K
    simp [e2]
  have i3 : (dSetM 6 (dLst dNil)) [some (.ref 1), some (.int r), some (.int c), some (.lst (KS.map T.str)), some (.int h), some (.int most), none, none, none, none, none] S2 = .nx (shD r c h most n none none none none) (S2 ++ [.lst []]) := by
    unfold shD
    generalize KS.map T.str = K
    simp [hn]
  obtain ⟨sl', S', q1, rs, S3, G, x7, x8, x9, x10, rfl, w3, rfl, hrl, hrw⟩ := forL_inv (src := none) (all := (List.range r).map fun k => T.int (k : Nat)) (g := gN 7) (b := L__law_board_v8_1) (fun k : Nat => T.int k)
    (fun xs sl St => ∃ (rs : List (List Str)) (S3 : Sto) (G : List MO) (x7 x8 x9 x10 : Option T), St = S3 ++ (.lst (rs.map eR) :: G) ∧ Ch S2 S3 ∧ sl = shD r c h most n x7 x8 x9 x10 ∧ rs.length + xs.length = r ∧ ∀ q ∈ rs, q.length = c ∧ ∀ k ∈ q, k ∈ KS) (fun _ _ _ _ => trivial) (by
      rintro k xs sl St ⟨rs, S3, G, x7, x8, x9, x10, rfl, w3, rfl, hrl, hrw⟩
      rw [List.length_cons] at hrl
      obtain ⟨ks, x8', x9', x10', S4, k1, k2, w4, e⟩ := rowD_ok (r := r) (h := h) (n := n) (x7 := some (.int (k : Nat))) (x8 := x8) (x9 := x9) (x10 := x10) (rs := rs) (G := G) l2 w3.w (w3.len.trans hn) c100 (by omega)
      refine ⟨_, _, _, _, gN_eq _, .inl e, rs ++ [ks], S4, G ++ [rwO ks], _, _, _, _, rfl, w3.trans w4, rfl, by simp; omega, fun u hu => ?_⟩
      rcases List.mem_append.mp hu with hu | hu
      · exact hrw u hu
      · rw [List.mem_singleton.mp hu]; exact ⟨k1, k2⟩)
    (List.range r) (shD r c h most n none none none none) (S2 ++ [.lst []]) ⟨[], S2, [], none, none, none, none, rfl, .refl w2.w, rfl, by simp, by simp⟩
  have hrl : rs.length = r := by simpa using hrl
  have hf := dFor_eq (dRng1 (dCons (dVar 1) dNil)) (gN 7) L__law_board_v8_1 (shD r c h most n none none none none) (S2 ++ [.lst []]) (dRng1_eq (n := r) (S1 := S2 ++ [.lst []]) (by simp) (by omega))
  have w13 := (w1.trans w2).trans w3
  have n3 : S3.length = n := w3.len.trans hn
  have g3 : (S3 ++ (MO.lst (rs.map eR) :: G))[n]? = some (.lst (rs.map eR)) := bx_tl n3
  have hC : C__law_board_v8_2 (shD r c h most n x7 x8 x9 x10) (S3 ++ (MO.lst (rs.map eR) :: G)) = .ok (.nlst ((rs.map jn1).map T.str)) (S3 ++ (MO.lst (rs.map eR) :: G)) := by
    unfold C__law_board_v8_2
    exact joinC (src := some n) (dIt_eq (t := .ref n) (by simp) (itOf_ref g3)) g3 (by simp) (by omega) (fun q hq => by have := (hrw q hq).1; omega) (fun q hq => (hrw q hq).2)
  have hJ := fJB (t := .lst ((rs.map jn1).map T.str)) (S := S3 ++ (MO.lst (rs.map eR) :: G)) (b := rs) rfl (by omega) (fun q hq => by have := (hrw q hq).1; omega) (fun q hq => (hrw q hq).2)
  have hT : (dTest (dBin (fEq false) (dMeth "str" fJoin (dC (.str "")) (dCons C__law_board_v8_2 dNil)) (dC (.str "")))) (shD r c h most n x7 x8 x9 x10) (S3 ++ (MO.lst (rs.map eR) :: G)) = .ok (decide (jnB rs = "")) (S3 ++ (MO.lst (rs.map eR) :: G)) := by
    have hm : mTy (S3 ++ (MO.lst (rs.map eR) :: G)) (.str "") = some "str" := rfl
    generalize (rs.map jn1).map T.str = L at hC hJ
    simp [hC, hm, hJ]
  have fin : ∀ (rs : List (List Str)) (S : Sto), S.length = n → ∀ G : List MO, (dRet (dCall fTuple (dCons (dVar 6) dNil))) (shD r c h most n x7 x8 x9 x10) (S ++ (MO.lst (rs.map eR) :: G)) = .rt (eB rs) (S ++ (MO.lst (rs.map eR) :: G)) := fun rs S hS G => by
    have g : (S ++ (MO.lst (rs.map eR) :: G))[n]? = some (.lst (rs.map eR)) := bx_tl hS
    have ft := fTuple_ref g
    generalize (S ++ (MO.lst (rs.map eR) :: G)) = Y at ft ⊢
    simp [ft, eB]
  have go : F__law_board_v8 [.ref 1, .int r, .int c] S = gcR S (((dIf (dTest (dBin (fEq false) (dMeth "str" fJoin (dC (.str "")) (dCons C__law_board_v8_2 dNil)) (dC (.str "")))) (dAsg (dBin fAdd (dTup (dCons (dBin fIx (dVar 3) (dBin fAdd (dC (.int 1)) (dOwn 2 F__law_scoop (dCons (dVar 0) (dCons (dC (.int 7)) dNil))))) dNil)) (dSl (dBin fIx (dVar 6) (dC (.int 0))) (dPart (dC (.int 1))) dNoPart)) (gSubD (dVar 6) (dC (.int 0)))) dNext) (shD r c h most n x7 x8 x9 x10) (S3 ++ (MO.lst (rs.map eR) :: G))).seq (dRet (dCall fTuple (dCons (dVar 6) dNil)))) := by
    unfold F__law_board_v8
    rw [dFun_eq (np := 3) (n := 11) (ts := [.ref 1, .int r, .int c]) rfl]
    show gcR S (b__law_board_v8 [some (.ref 1), some (.int r), some (.int c), none, none, none, none, none, none, none, none] S) = _
    unfold b__law_board_v8
    rw [dSeq_eq, i0, RS.seq_nx, dSeq_eq, i1, RS.seq_nx, dSeq_eq, i2, RS.seq_nx, dSeq_eq, i3, RS.seq_nx, dSeq_eq, hf, q1, RS.seq_nx, dSeq_eq]
  rw [go]
  by_cases hj : jnB rs = ""
  · obtain ⟨k, S4, e4, l4, w4⟩ := scoop_nat w3.w (MO.lst (rs.map eR) :: G) (n := 7) (by omega) (by omega)
    replace e4 : F__law_scoop [.ref 1, .int 7] (S3 ++ (MO.lst (rs.map eR) :: G)) = .ok (.int k) (S4 ++ (MO.lst (rs.map eR) :: G)) := e4
    obtain ⟨z, mz, fk⟩ := KS_ix (a := 1 + k) (by omega) (S4 ++ (MO.lst (rs.map eR) :: G))
    have ek : ((1 + k : Nat) : Int) = 1 + (k : Int) := by omega
    rw [ek] at fk
    have w14 := w13.trans w4
    have n4 : S4.length = n := w4.len.trans n3
    obtain ⟨q0, rs', rfl⟩ : ∃ q0 rs', rs = q0 :: rs' := by
      cases rs with
      | nil => simp at hrl; omega
      | cons q0 rs' => exact ⟨q0, rs', rfl⟩
    · have g4 : (S4 ++ (MO.lst ((q0 :: rs').map eR) :: G))[n]? = some (.lst ((q0 :: rs').map eR)) := bx_tl n4
      have f0 : fIx (.ref n) (.int 0) (S4 ++ (MO.lst ((q0 :: rs').map eR) :: G)) = .ok (eR q0) (S4 ++ (MO.lst ((q0 :: rs').map eR) :: G)) := by
        rw [fIx_ref g4, List.map_cons, atI_0]
        rfl
      have fs : ∀ S : Sto, fSl (eR q0) (some 1) none S = .ok (.tup ((q0.drop 1).map T.str)) S := fun S => by
        unfold eR
        rw [fSl_tup, show (1 : Int) = ((1 : Nat) : Int) from rfl, cutT_from, List.map_drop]
      have hq0 := hrw q0 List.mem_cons_self
      have fa : ∀ S : Sto, fAdd (.tup [.str z]) (.tup ((q0.drop 1).map T.str)) S = .ok (eR (z :: q0.drop 1)) S := fun S => by
        rw [fAdd_tup, if_pos (by rw [PySem.sizeLine_eq]; simp; omega)]
        rfl
      have pu : dput (S4 ++ (MO.lst ((q0 :: rs').map eR) :: G)) (.ref n) (.int 0) (eR (z :: q0.drop 1)) = some (S4 ++ (MO.lst (((z :: q0.drop 1) :: rs').map eR) :: G)) := by
        rw [dput_r0 (ts := rs'.map eR) (t0 := eR q0) g4]
        rw [bx_tls n4]
        rfl
      have i5 : (dAsg (dBin fAdd (dTup (dCons (dBin fIx (dVar 3) (dBin fAdd (dC (.int 1)) (dOwn 2 F__law_scoop (dCons (dVar 0) (dCons (dC (.int 7)) dNil))))) dNil)) (dSl (dBin fIx (dVar 6) (dC (.int 0))) (dPart (dC (.int 1))) dNoPart)) (gSubD (dVar 6) (dC (.int 0)))) (shD r c h most n x7 x8 x9 x10) (S3 ++ (MO.lst ((q0 :: rs').map eR) :: G)) = .nx (shD r c h most n x7 x8 x9 x10) (S4 ++ (MO.lst (((z :: q0.drop 1) :: rs').map eR) :: G)) := by
        generalize (S3 ++ (MO.lst ((q0 :: rs').map eR) :: G)) = Y3 at e4 ⊢
        generalize (S4 ++ (MO.lst ((q0 :: rs').map eR) :: G)) = Y4 at e4 fk f0 pu ⊢
        generalize (S4 ++ (MO.lst (((z :: q0.drop 1) :: rs').map eR) :: G)) = Y5 at pu ⊢
        have fE : fz (eR (z :: q0.drop 1)) = eR (z :: q0.drop 1) := rfl
        generalize eR (z :: q0.drop 1) = E at fa pu fE
        generalize (q0.drop 1).map T.str = D at fs fa
        simp [e4, fk, f0, fs, fa, fE, pu, -fIx_lst, -fAdd_tup]
      have hs : (dIf (dTest (dBin (fEq false) (dMeth "str" fJoin (dC (.str "")) (dCons C__law_board_v8_2 dNil)) (dC (.str "")))) (dAsg (dBin fAdd (dTup (dCons (dBin fIx (dVar 3) (dBin fAdd (dC (.int 1)) (dOwn 2 F__law_scoop (dCons (dVar 0) (dCons (dC (.int 7)) dNil))))) dNil)) (dSl (dBin fIx (dVar 6) (dC (.int 0))) (dPart (dC (.int 1))) dNoPart)) (gSubD (dVar 6) (dC (.int 0)))) dNext) (shD r c h most n x7 x8 x9 x10) (S3 ++ (MO.lst ((q0 :: rs').map eR) :: G)) = .nx (shD r c h most n x7 x8 x9 x10) (S4 ++ (MO.lst (((z :: q0.drop 1) :: rs').map eR) :: G)) := by
        rw [dIf_eq, hT, decide_eq_true hj]
        exact i5
      refine ⟨(z :: q0.drop 1) :: rs', S4, ?_, w14, kb_of h0 hc r100 c100 (by simpa using hrl) (fun q hq => ?_) (fun q hq => ?_)⟩
      · rw [hs, RS.seq_nx, fin _ _ n4, gcR_rt, w14.gcA _ (by simp)]
      · rcases List.mem_cons.mp hq with e | e
        · rw [e]
          have := hq0.1
          simp
          omega
        · exact (hrw q (List.mem_cons_of_mem _ e)).1
      · rcases List.mem_cons.mp hq with e | e
        · rw [e]
          intro k hk
          rcases List.mem_cons.mp hk with e | e
          · rw [e]; exact mz
          · exact hq0.2 k (List.mem_of_mem_drop e)
        · exact (hrw q (List.mem_cons_of_mem _ e)).2
  · have hs : (dIf (dTest (dBin (fEq false) (dMeth "str" fJoin (dC (.str "")) (dCons C__law_board_v8_2 dNil)) (dC (.str "")))) (dAsg (dBin fAdd (dTup (dCons (dBin fIx (dVar 3) (dBin fAdd (dC (.int 1)) (dOwn 2 F__law_scoop (dCons (dVar 0) (dCons (dC (.int 7)) dNil))))) dNil)) (dSl (dBin fIx (dVar 6) (dC (.int 0))) (dPart (dC (.int 1))) dNoPart)) (gSubD (dVar 6) (dC (.int 0)))) dNext) (shD r c h most n x7 x8 x9 x10) (S3 ++ (MO.lst (rs.map eR) :: G)) = .nx (shD r c h most n x7 x8 x9 x10) (S3 ++ (MO.lst (rs.map eR) :: G)) := by
      rw [dIf_eq, hT, decide_eq_false hj]
      rfl
    exact ⟨rs, S3, by rw [hs, RS.seq_nx, fin _ _ n3, gcR_rt, w13.gcA _ (by simp)], w13, kb_of h0 hc r100 c100 hrl (fun q hq => (hrw q hq).1) (fun q hq => (hrw q hq).2)⟩
end Bd

/-! boards changed -/
namespace Bd
open PySem PySem.Spec L2 Dn Pk
theorem fa_spl {x y : List T} {e : T} (h : x.length + 1 + y.length ≤ 1000) : (∀ S : Sto, fAdd (.tup x) (.tup [e]) S = .ok (.tup (x ++ [e])) S) ∧ (∀ S : Sto, fAdd (.tup (x ++ [e])) (.tup y) S = .ok (.tup (x ++ [e] ++ y)) S) := by
  constructor
  · intro S
    rw [fAdd_tup, if_pos (by rw [PySem.sizeLine_eq, List.length_singleton]; omega)]
  · intro S
    rw [fAdd_tup, if_pos (by rw [PySem.sizeLine_eq, List.length_append, List.length_singleton]; omega)]
theorem kb_rep {b : Brd} {r c : Nat} (W : KB b r c) {i : Nat} (hi : i < r) {q : List Str} (hq : q.length = c) (hk : ∀ k ∈ q, k ∈ KS) : KB (b.take i ++ [q] ++ b.drop (i + 1)) r c := by
  obtain ⟨p1, p2, p3, p4⟩ := W.pos
  have hl := W.len
  have hm : ∀ x ∈ b.take i ++ [q] ++ b.drop (i + 1), x = q ∨ x ∈ b := fun x hx => by
    rcases List.mem_append.mp hx with h | h
    · rcases List.mem_append.mp h with h | h
      · exact .inr (List.mem_of_mem_take h)
      · exact .inl (List.mem_singleton.mp h)
    · exact .inr (List.mem_of_mem_drop h)
  refine kb_of p1 p2 p3 p4 (by simp; omega) (fun x hx => ?_) (fun x hx => ?_)
  · rcases hm x hx with e | e
    · rw [e]; exact hq
    · exact W.row_len x e
  · rcases hm x hx with e | e
    · rw [e]; exact hk
    · exact W.ks x e
section
variable {b : Brd} {r c : Nat} (W : KB b r c)
include W
theorem KB.fl (S : Sto) : fLen [eB b] S = .ok (.int (r : Nat)) S := by
  have := W.len
  show RE.ok (.int ((b.map eR).length : Nat)) S = _
  rw [List.length_map, this]
theorem KB.rw_ {i : Nat} (hi : i < r) : row b i ∈ b := row_mem (by have := W.len; omega)
theorem KB.fi {i : Nat} (hi : i < r) (S : Sto) : fIx (eB b) (.int (i : Nat)) S = .ok (eR (row b i)) S := by
  have := W.len
  have h : i < b.length := by omega
  unfold eB
  rw [fIx_tup, atI_n, List.getElem?_map, List.getElem?_eq_getElem h]
  simp [row, List.getElem?_eq_getElem h]
theorem KB.f0 (S : Sto) : fIx (eB b) (.int 0) S = .ok (eR (row b 0)) S := W.fi (i := 0) W.pos.1 S
end
theorem fl_eR {q : List Str} {c : Nat} (h : q.length = c) (S : Sto) : fLen [eR q] S = .ok (.int (c : Nat)) S := by
  show RE.ok (.int ((q.map T.str).length : Nat)) S = _
  rw [List.length_map, h]
theorem fst_B (b : Brd) (i : Nat) (S : Sto) : fSl (eB b) none (some (i : Int)) S = .ok (.tup ((b.take i).map eR)) S := by
  unfold eB
  rw [fSl_tup, cutT_to, List.map_take]
theorem fsd_B (b : Brd) (i : Nat) (S : Sto) : fSl (eB b) (some ((i : Int) + 1)) none S = .ok (.tup ((b.drop (i + 1)).map eR)) S := by
  unfold eB
  rw [fSl_tup, show ((i : Int) + 1) = ((i + 1 : Nat) : Int) by omega, cutT_from, List.map_drop]
theorem fst_R (q : List Str) (i : Nat) (S : Sto) : fSl (eR q) none (some (i : Int)) S = .ok (.tup ((q.take i).map T.str)) S := by
  unfold eR
  rw [fSl_tup, cutT_to, List.map_take]
theorem fsd_R (q : List Str) (i : Nat) (S : Sto) : fSl (eR q) (some ((i : Int) + 1)) none S = .ok (.tup ((q.drop (i + 1)).map T.str)) S := by
  unfold eR
  rw [fSl_tup, show ((i : Int) + 1) = ((i + 1 : Nat) : Int) by omega, cutT_from, List.map_drop]
theorem changed_ok {b : Brd} {r c : Nat} (W : KB b r c) {S : Sto} (hw : Cw S) : ∃ b' S1, F__law_changed [.ref 1, eB b] S = .ok (eB b') S1 ∧ Ch S S1 ∧ KB b' r c := by
  obtain ⟨p1, p2, p3, p4⟩ := W.pos
  obtain ⟨i, S1, e1, l1, w1⟩ := scoop0 hw (n := r) (by omega) (by omega)
  obtain ⟨j, S2, e2, l2, w2⟩ := scoop0 w1.w (n := c) (by omega) (by omega)
  obtain ⟨k, S3, e3, l3, w3⟩ := scoop0 w2.w (n := 3) (by omega) (by omega)
  replace e3 : F__law_scoop [.ref 1, .int 3] S2 = .ok (.int k) S3 := e3
  have w13 := (w1.trans w2).trans w3
  have hq := W.rw_ l1
  have hql := W.row_len _ hq
  have hqk := W.ks _ hq
  have q0l := W.row_len _ (W.rw_ p1)
  have fl := W.fl
  have f0 := W.f0
  have fi := W.fi l1
  have fl0 := fl_eR q0l
  have flq := fl_eR hql
  have fsb := fst_B b i
  have fdb := fsd_B b i
  have hlen := W.len
  have lts_b : ∀ (b' : Brd) (n : Nat), (eB b').lt n = true := fun b' n => lt_eB n b'
  have hKB : ∀ q' : List Str, q'.length = c → (∀ k ∈ q', k ∈ KS) → KB (b.take i ++ [q'] ++ b.drop (i + 1)) r c := fun q' h1 h2 => kb_rep W l1 h1 h2
  have heB : ∀ q' : List Str, T.tup ((b.take i).map eR ++ [eR q'] ++ (b.drop (i + 1)).map eR) = eB (b.take i ++ [q'] ++ b.drop (i + 1)) := fun q' => by
    unfold eB
    rw [List.map_append, List.map_append]
    rfl
  have hsz : ((b.take i).map eR).length + 1 + ((b.drop (i + 1)).map eR).length ≤ 1000 := by simp; omega
  have fB : fz (eB b) = eB b := rfl
  have sj : ∀ b' : Brd, KB b' r c → ∀ S : Sto, fJoin (.str "") [.lst ((b'.map jn1).map T.str)] S = .ok (.str (jnB b')) S := fun b' W' S => fJB rfl (by have := W'.len; omega) (fun q hq => by have := W'.row_len q hq; omega) W'.ks
  have cj : ∀ b' : Brd, KB b' r c → ∀ (x5 x6 x7 x2 x3 x4 x1 x0 : Option T) (S : Sto), C__law_changed_0 [x0, x1, x2, x3, x4, x5, x6, x7, some (eB b'), none] S = .ok (.nlst ((b'.map jn1).map T.str)) S := fun b' W' x5 x6 x7 x2 x3 x4 x1 x0 S => by
    unfold C__law_changed_0
    exact joinC (src := none) (dIt_eq (t := eB b') (by simp) rfl) trivial (by simp) (by have := W'.len; omega) (fun q hq => by have := W'.row_len q hq; omega) W'.ks
  obtain ⟨B, hB⟩ : ∃ B, B = eB b := ⟨_, rfl⟩
  rw [← hB] at fB
  simp only [← hB] at fl f0 fi fsb fdb
  rw [← hB]
  have i0 : (dSet 2 (dLst (dCons (dC (.str "")) (dCons (dC (.str "d")) (dCons (dC (.str "ds")) (dCons (dC (.str "dsu")) (dCons (dC (.str "du")) (dCons (dC (.str "s")) (dCons (dC (.str "su")) (dCons (dC (.str "u")) dNil)))))))))) [some (.ref 1), some B, none, none, none, none, none, none, none, none] S = .nx [some (.ref 1), some B, some (.lst (KS.map T.str)), none, none, none, none, none, none, none] S := by
    simp
    rfl
  obtain ⟨L, hL⟩ : ∃ L, L = T.lst (KS.map T.str) := ⟨_, rfl⟩
  have fL : fz L = L := by rw [hL]; rfl
  rw [← hL] at i0
  let sh := fun (x3 x4 x5 x6 x7 x8 : Option T) => [some (T.ref 1), some B, some L, x3, x4, x5, x6, x7, x8, none]
  have i1 : (dSet 3 (dOwn 2 F__law_scoop (dCons (dVar 0) (dCons (dCall fLen (dCons (dVar 1) dNil)) dNil)))) (sh none none none none none none) S = .nx (sh (some (.int (i : Nat))) none none none none none) S1 := by
    simp [sh, fB, fl, e1]
  have i2 : (dSet 4 (dOwn 2 F__law_scoop (dCons (dVar 0) (dCons (dCall fLen (dCons (dBin fIx (dVar 1) (dC (.int 0))) dNil)) dNil)))) (sh (some (.int (i : Nat))) none none none none none) S1 = .nx (sh (some (.int (i : Nat))) (some (.int (j : Nat))) none none none none) S2 := by
    have fR : fz (eR (row b 0)) = eR (row b 0) := rfl
    generalize eR (row b 0) = R at f0 fl0 fR
    simp [sh, fB, f0, fR, fl0, e2]
  have i3 : (dSetM 5 (dBin fIx (dVar 1) (dVar 3))) (sh (some (.int (i : Nat))) (some (.int (j : Nat))) none none none none) S2 = .nx (sh (some (.int (i : Nat))) (some (.int (j : Nat))) (some (eR (row b i))) none none none) S2 := by
    have st : setM 5 (sh (some (.int (i : Nat))) (some (.int (j : Nat))) none none none none) S2 (eR (row b i)) = .nx (sh (some (.int (i : Nat))) (some (.int (j : Nat))) (some (eR (row b i))) none none none) S2 := rfl
    have h : (dBin fIx (dVar 1) (dVar 3)) (sh (some (.int (i : Nat))) (some (.int (j : Nat))) none none none none) S2 = .ok (eR (row b i)) S2 := by
      simp only [sh, dBin_eq, dVar_eq, List.getElem?_cons_zero, List.getElem?_cons_succ, varR_some, RE.bind_ok, fB, fz_int, fi]
    rw [dSetM_eq, h]
    exact st
  have go : ∀ t S', ((dIf (dTest (dBin (fEq false) (dOwn 2 F__law_scoop (dCons (dVar 0) (dCons (dC (.int 3)) dNil))) (dC (.int 0)))) (dSeq (dSet 6 (dOwn 2 F__law_scoop (dCons (dVar 0) (dCons (dCall fLen (dCons (dVar 5) dNil)) dNil)))) (dSeq (dSetM 5 (dCall fList (dCons (dVar 5) dNil))) (dSeq (dAsg (dTup (dCons (dBin fIx (dVar 5) (dVar 6)) (dCons (dBin fIx (dVar 5) (dVar 4)) dNil))) (gT 2 (gsCons (gSubD (dVar 5) (dVar 4)) (gsCons (gSubD (dVar 5) (dVar 6)) gsNil)))) (dRet (dBin fAdd (dBin fAdd (dSl (dVar 1) dNoPart (dPart (dVar 3))) (dTup (dCons (dCall fTuple (dCons (dVar 5) dNil)) dNil))) (dSl (dVar 1) (dPart (dBin fAdd (dVar 3) (dC (.int 1)))) dNoPart)))))) dNext) (sh (some (.int (i : Nat))) (some (.int (j : Nat))) (some (eR (row b i))) none none none) S2).seq (dSeq (dSet 7 (dBin fIx (dVar 2) (dOwn 2 F__law_scoop (dCons (dVar 0) (dCons (dC (.int 8)) dNil))))) (dSeq (dSet 8 (dBin fAdd (dBin fAdd (dSl (dVar 1) dNoPart (dPart (dVar 3))) (dTup (dCons (dBin fAdd (dBin fAdd (dSl (dVar 5) dNoPart (dPart (dVar 4))) (dTup (dCons (dVar 7) dNil))) (dSl (dVar 5) (dPart (dBin fAdd (dVar 4) (dC (.int 1)))) dNoPart)) dNil))) (dSl (dVar 1) (dPart (dBin fAdd (dVar 3) (dC (.int 1)))) dNoPart))) (dRet (dIfE (dTest (dBin (fEq false) (dMeth "str" fJoin (dC (.str "")) (dCons C__law_changed_0 dNil)) (dC (.str "")))) (dVar 1) (dVar 8))))) = .rt t S' → F__law_changed [.ref 1, B] S = gcT S t S' := fun t S' h => by
    unfold F__law_changed
    rw [dFun_eq (np := 2) (n := 10) (ts := [.ref 1, B]) rfl]
    show gcR S (b__law_changed [some (.ref 1), some B, none, none, none, none, none, none, none, none] S) = _
    unfold b__law_changed
    rw [dSeq_eq, i0, RS.seq_nx, dSeq_eq]
    show gcR S (((dSet 3 (dOwn 2 F__law_scoop (dCons (dVar 0) (dCons (dCall fLen (dCons (dVar 1) dNil)) dNil)))) (sh none none none none none none) S).seq _) = _
    rw [i1, RS.seq_nx, dSeq_eq, i2, RS.seq_nx, dSeq_eq, i3, RS.seq_nx, dSeq_eq, h, gcR_rt]
  have hT : (dTest (dBin (fEq false) (dOwn 2 F__law_scoop (dCons (dVar 0) (dCons (dC (.int 3)) dNil))) (dC (.int 0)))) (sh (some (.int (i : Nat))) (some (.int (j : Nat))) (some (eR (row b i))) none none none) S2 = .ok (decide (k = 0)) S3 := by
    generalize eR (row b i) = R
    by_cases hk : k = 0
    · simp [sh, e3, hk]
    · simp [sh, e3, hk]
  generalize hqq : row b i = q at *
  by_cases hk : k = 0
  · obtain ⟨f, S4, e4, l4, w4⟩ := scoop0 w3.w (n := c) (by omega) (by omega)
    have w14 := w13.trans w4
    obtain ⟨n, hn⟩ : ∃ n, S4.length = n := ⟨_, rfl⟩
    have hf : f < q.length := by omega
    have hj : j < q.length := by omega
    have hsw : ((q.set j q[f]).set f q[j]).length = c := by simp [hql]
    have hsk : ∀ k ∈ (q.set j q[f]).set f q[j], k ∈ KS := fun k hk => by
      rcases List.mem_or_eq_of_mem_set hk with h | h
      · rcases List.mem_or_eq_of_mem_set h with h | h
        · exact hqk k h
        · rw [h]; exact hqk _ (List.getElem_mem hf)
      · rw [h]; exact hqk _ (List.getElem_mem hj)
    have g1 : (S4 ++ [rwO q])[n]? = some (rwO q) := bx_tl hn
    have g2 : (S4 ++ [rwO (q.set j q[f])])[n]? = some (rwO (q.set j q[f])) := bx_tl hn
    have g3 : (S4 ++ [rwO ((q.set j q[f]).set f q[j])])[n]? = some (rwO ((q.set j q[f]).set f q[j])) := bx_tl hn
    have x1 : fIx (.ref n) (.int (f : Nat)) (S4 ++ [rwO q]) = .ok (.str q[f]) (S4 ++ [rwO q]) := by
      rw [fIx_ref g1, atI_n, List.getElem?_map, List.getElem?_eq_getElem hf]; rfl
    have x2 : fIx (.ref n) (.int (j : Nat)) (S4 ++ [rwO q]) = .ok (.str q[j]) (S4 ++ [rwO q]) := by
      rw [fIx_ref g1, atI_n, List.getElem?_map, List.getElem?_eq_getElem hj]; rfl
    have u1 : dput (S4 ++ [rwO q]) (.ref n) (.int (j : Nat)) (.str q[f]) = some (S4 ++ [rwO (q.set j q[f])]) := by
      rw [dput_ref g1 (ixN_nat (by simpa using hj)), bx_tls hn, ← List.map_set]
    have u2 : dput (S4 ++ [rwO (q.set j q[f])]) (.ref n) (.int (f : Nat)) (.str q[j]) = some (S4 ++ [rwO ((q.set j q[f]).set f q[j])]) := by
      rw [dput_ref g2 (ixN_nat (by simpa using hf)), bx_tls hn, ← List.map_set]
    have j1 : (dSet 6 (dOwn 2 F__law_scoop (dCons (dVar 0) (dCons (dCall fLen (dCons (dVar 5) dNil)) dNil)))) (sh (some (.int (i : Nat))) (some (.int (j : Nat))) (some (eR q)) none none none) S3 = .nx (sh (some (.int (i : Nat))) (some (.int (j : Nat))) (some (eR q)) (some (.int (f : Nat))) none none) S4 := by
      have fR : fz (eR q) = eR q := rfl
      generalize eR q = R at flq fR
      simp [sh, fR, flq, e4]
    have j2 : (dSetM 5 (dCall fList (dCons (dVar 5) dNil))) (sh (some (.int (i : Nat))) (some (.int (j : Nat))) (some (eR q)) (some (.int (f : Nat))) none none) S4 = .nx (sh (some (.int (i : Nat))) (some (.int (j : Nat))) (some (.ref n)) (some (.int (f : Nat))) none none) (S4 ++ [rwO q]) := by
      have fR : fz (eR q) = eR q := rfl
      have ff : fList [eR q] S4 = .ok (.nlst (q.map T.str)) S4 := rfl
      generalize eR q = R at fR ff
      simp [sh, fR, ff, hn]
    have j3 : (dAsg (dTup (dCons (dBin fIx (dVar 5) (dVar 6)) (dCons (dBin fIx (dVar 5) (dVar 4)) dNil))) (gT 2 (gsCons (gSubD (dVar 5) (dVar 4)) (gsCons (gSubD (dVar 5) (dVar 6)) gsNil)))) (sh (some (.int (i : Nat))) (some (.int (j : Nat))) (some (.ref n)) (some (.int (f : Nat))) none none) (S4 ++ [rwO q]) = .nx (sh (some (.int (i : Nat))) (some (.int (j : Nat))) (some (.ref n)) (some (.int (f : Nat))) none none) (S4 ++ [rwO ((q.set j q[f]).set f q[j])]) := by
      generalize (S4 ++ [rwO q]) = Y1 at x1 x2 u1 ⊢
      generalize (S4 ++ [rwO (q.set j q[f])]) = Y2 at u1 u2 ⊢
      generalize (S4 ++ [rwO ((q.set j q[f]).set f q[j])]) = Y3 at u2 ⊢
      simp [sh, x1, x2, u1, u2]
    have j4 : (dRet (dBin fAdd (dBin fAdd (dSl (dVar 1) dNoPart (dPart (dVar 3))) (dTup (dCons (dCall fTuple (dCons (dVar 5) dNil)) dNil))) (dSl (dVar 1) (dPart (dBin fAdd (dVar 3) (dC (.int 1)))) dNoPart))) (sh (some (.int (i : Nat))) (some (.int (j : Nat))) (some (.ref n)) (some (.int (f : Nat))) none none) (S4 ++ [rwO ((q.set j q[f]).set f q[j])]) = .rt (eB (b.take i ++ [(q.set j q[f]).set f q[j]] ++ b.drop (i + 1))) (S4 ++ [rwO ((q.set j q[f]).set f q[j])]) := by
      have ft := fTuple_ref g3
      rw [← heB]
      obtain ⟨s1, s2⟩ := fa_spl (e := eR ((q.set j q[f]).set f q[j])) hsz
      have fR : fz (eR ((q.set j q[f]).set f q[j])) = eR ((q.set j q[f]).set f q[j]) := rfl
      replace ft : fTuple [.ref n] (S4 ++ [rwO ((q.set j q[f]).set f q[j])]) = .ok (eR ((q.set j q[f]).set f q[j])) (S4 ++ [rwO ((q.set j q[f]).set f q[j])]) := ft
      generalize (S4 ++ [rwO ((q.set j q[f]).set f q[j])]) = Y3 at ft ⊢
      generalize eR ((q.set j q[f]).set f q[j]) = E at ft s1 s2 fR ⊢
      generalize (b.take i).map eR = A at fsb s1 s2 ⊢
      generalize (b.drop (i + 1)).map eR = D at fdb s2 ⊢
      generalize A ++ [E] = AE at s1 s2 ⊢
      generalize AE ++ D = AD at s2 ⊢
      simp [sh, fB, ft, fsb, fdb, fR, s1, s2, -fAdd_tup]
    refine ⟨_, S4, ?_, w14, hKB _ hsw hsk⟩
    have := go (eB (b.take i ++ [(q.set j q[f]).set f q[j]] ++ b.drop (i + 1))) (S4 ++ [rwO ((q.set j q[f]).set f q[j])]) (by
      rw [dIf_eq, hT, decide_eq_true hk]
      simp only [RB.toS_ok, if_true]
      rw [dSeq_eq, j1, RS.seq_nx, dSeq_eq, j2, RS.seq_nx, dSeq_eq, j3, RS.seq_nx, j4]
      rfl)
    rw [this, w14.gcA _ (lts_b _ _)]
  · obtain ⟨f, S4, e4, l4, w4⟩ := scoop0 w3.w (n := 8) (by omega) (by omega)
    replace e4 : F__law_scoop [.ref 1, .int 8] S3 = .ok (.int f) S4 := e4
    have w14 := w13.trans w4
    obtain ⟨z, mz, fk⟩ := KS_ix l4 S4
    rw [← hL] at fk
    have hnl : (q.take j ++ [z] ++ q.drop (j + 1)).length = c := by simp; omega
    have hnk : ∀ k ∈ q.take j ++ [z] ++ q.drop (j + 1), k ∈ KS := fun k hk => by
      rcases List.mem_append.mp hk with h | h
      · rcases List.mem_append.mp h with h | h
        · exact hqk k (List.mem_of_mem_take h)
        · rw [List.mem_singleton.mp h]; exact mz
      · exact hqk k (List.mem_of_mem_drop h)
    have W' := hKB _ hnl hnk
    have j0 : (dIf (dTest (dBin (fEq false) (dOwn 2 F__law_scoop (dCons (dVar 0) (dCons (dC (.int 3)) dNil))) (dC (.int 0)))) (dSeq (dSet 6 (dOwn 2 F__law_scoop (dCons (dVar 0) (dCons (dCall fLen (dCons (dVar 5) dNil)) dNil)))) (dSeq (dSetM 5 (dCall fList (dCons (dVar 5) dNil))) (dSeq (dAsg (dTup (dCons (dBin fIx (dVar 5) (dVar 6)) (dCons (dBin fIx (dVar 5) (dVar 4)) dNil))) (gT 2 (gsCons (gSubD (dVar 5) (dVar 4)) (gsCons (gSubD (dVar 5) (dVar 6)) gsNil)))) (dRet (dBin fAdd (dBin fAdd (dSl (dVar 1) dNoPart (dPart (dVar 3))) (dTup (dCons (dCall fTuple (dCons (dVar 5) dNil)) dNil))) (dSl (dVar 1) (dPart (dBin fAdd (dVar 3) (dC (.int 1)))) dNoPart)))))) dNext) (sh (some (.int (i : Nat))) (some (.int (j : Nat))) (some (eR q)) none none none) S2 = .nx (sh (some (.int (i : Nat))) (some (.int (j : Nat))) (some (eR q)) none none none) S3 := by
      rw [dIf_eq, hT, decide_eq_false hk]
      rfl
    have j5 : (dSet 7 (dBin fIx (dVar 2) (dOwn 2 F__law_scoop (dCons (dVar 0) (dCons (dC (.int 8)) dNil))))) (sh (some (.int (i : Nat))) (some (.int (j : Nat))) (some (eR q)) none none none) S3 = .nx (sh (some (.int (i : Nat))) (some (.int (j : Nat))) (some (eR q)) none (some (.str z)) none) S4 := by
      generalize eR q = R
      simp [sh, fL, e4, fk]
    have j6 : (dSet 8 (dBin fAdd (dBin fAdd (dSl (dVar 1) dNoPart (dPart (dVar 3))) (dTup (dCons (dBin fAdd (dBin fAdd (dSl (dVar 5) dNoPart (dPart (dVar 4))) (dTup (dCons (dVar 7) dNil))) (dSl (dVar 5) (dPart (dBin fAdd (dVar 4) (dC (.int 1)))) dNoPart)) dNil))) (dSl (dVar 1) (dPart (dBin fAdd (dVar 3) (dC (.int 1)))) dNoPart))) (sh (some (.int (i : Nat))) (some (.int (j : Nat))) (some (eR q)) none (some (.str z)) none) S4 = .nx (sh (some (.int (i : Nat))) (some (.int (j : Nat))) (some (eR q)) none (some (.str z)) (some (eB (b.take i ++ [q.take j ++ [z] ++ q.drop (j + 1)] ++ b.drop (i + 1))))) S4 := by
      rw [← heB]
      obtain ⟨s1, s2⟩ := fa_spl (e := eR (q.take j ++ [z] ++ q.drop (j + 1))) hsz
      obtain ⟨s3, s4⟩ := fa_spl (x := (q.take j).map T.str) (e := T.str z) (y := (q.drop (j + 1)).map T.str) (by simp; omega)
      have er : T.tup ((q.take j).map T.str ++ [T.str z] ++ (q.drop (j + 1)).map T.str) = eR (q.take j ++ [z] ++ q.drop (j + 1)) := by
        unfold eR
        rw [List.map_append, List.map_append]
        rfl
      rw [er] at s4
      have fR : fz (eR q) = eR q := rfl
      have fE : fz (eR (q.take j ++ [z] ++ q.drop (j + 1))) = eR (q.take j ++ [z] ++ q.drop (j + 1)) := rfl
      have fsr := fst_R q j
      have fdr := fsd_R q j
      clear er hnl hnk W' heB
      generalize eR (q.take j ++ [z] ++ q.drop (j + 1)) = E at s1 s2 s4 fE ⊢
      generalize eR q = R at fR fsr fdr ⊢
      generalize (b.take i).map eR = A at fsb s1 s2 ⊢
      generalize (b.drop (i + 1)).map eR = D at fdb s2 ⊢
      generalize (q.take j).map T.str = A1 at fsr s3 s4
      generalize (q.drop (j + 1)).map T.str = D1 at fdr s4
      generalize A ++ [E] = AE at s1 s2 ⊢
      generalize A1 ++ [T.str z] = AE1 at s3 s4
      generalize AE ++ D = AD at s2 ⊢
      simp [sh, fB, fR, fE, fsb, fdb, fsr, fdr, s1, s2, s3, s4, -fAdd_tup]
    have hJ := sj _ W' S4
    have hC := cj _ W' (some (eR q)) none (some (.str z)) (some L) (some (.int (i : Nat))) (some (.int (j : Nat))) (some B) (some (.ref 1)) S4
    have fW : fz (eB (b.take i ++ [q.take j ++ [z] ++ q.drop (j + 1)] ++ b.drop (i + 1))) = eB (b.take i ++ [q.take j ++ [z] ++ q.drop (j + 1)] ++ b.drop (i + 1)) := rfl
    generalize b.take i ++ [q.take j ++ [z] ++ q.drop (j + 1)] ++ b.drop (i + 1) = b' at j6 hJ hC W' fW
    have hm : mTy S4 (.str "") = some "str" := rfl
    have j7 : ∃ b'' , (dRet (dIfE (dTest (dBin (fEq false) (dMeth "str" fJoin (dC (.str "")) (dCons C__law_changed_0 dNil)) (dC (.str "")))) (dVar 1) (dVar 8))) (sh (some (.int (i : Nat))) (some (.int (j : Nat))) (some (eR q)) none (some (.str z)) (some (eB b'))) S4 = .rt (eB b'') S4 ∧ KB b'' r c := by
      generalize (b'.map jn1).map T.str = J at hJ hC
      by_cases hz : jnB b' = ""
      · refine ⟨b, ?_, W⟩
        rw [← hB]
        generalize eB b' = B' at *
        simp [sh, hC, hm, hJ, hz, fB]
      · refine ⟨b', ?_, W'⟩
        generalize eB b' = B' at *
        simp [sh, hC, hm, hJ, hz, fW]
    obtain ⟨b'', j7, W''⟩ := j7
    refine ⟨b'', S4, ?_, w14, W''⟩
    rw [go (eB b'') S4 (by rw [j0, RS.seq_nx, dSeq_eq, j5, RS.seq_nx, dSeq_eq, j6, RS.seq_nx, j7]), w14.gcT (lts_b _ _)]
end Bd

/-! boards made even -/
namespace Bd
open PySem PySem.Spec L2 Dn Pk
theorem kb_app {a b : Brd} {r c r' : Nat} (W : KB a r c) (W' : KB b r' c) (h : r + r' ≤ 100) : KB (a ++ b) (r + r') c := by
  obtain ⟨p1, p2, p3, p4⟩ := W.pos
  refine kb_of (by omega) p2 h p4 (by rw [List.length_append, W.len, W'.len]) (fun q hq => ?_) (fun q hq => ?_)
  · rcases List.mem_append.mp hq with h | h
    · exact W.row_len q h
    · exact W'.row_len q h
  · rcases List.mem_append.mp hq with h | h
    · exact W.ks q h
    · exact W'.ks q h
theorem fa_B {a b : Brd} (h : a.length + b.length ≤ 1000) (S : Sto) : fAdd (eB a) (eB b) S = .ok (eB (a ++ b)) S := by
  unfold eB
  rw [fAdd_tup, if_pos (by rw [PySem.sizeLine_eq, List.length_map, List.length_map]; omega), List.map_append]
theorem fa_R {a b : List Str} (h : a.length + b.length ≤ 1000) (S : Sto) : fAdd (eR a) (eR b) S = .ok (eR (a ++ b)) S := by
  unfold eR
  rw [fAdd_tup, if_pos (by rw [PySem.sizeLine_eq, List.length_map, List.length_map]; omega), List.map_append]
theorem fm_rep {t : T} {k : Nat} (h0 : 0 < k) (h1 : k ≤ 100) (S : Sto) : fMul (.tup [t]) (.int (k : Nat)) S = .ok (.tup (List.replicate k t)) S := by
  show (if (k : Int) = 1 then RE.ok (.tup [t]) S else if [t] ≠ [] ∧ 2 ≤ (k : Int) ∧ (k : Int) ≤ 1000 ∧ [t].length ≤ 1000 then .ok (.tup (List.replicate (k : Int).toNat [t]).flatten) S else .bad) = _
  by_cases h : (k : Int) = 1
  · rw [if_pos h]
    have : k = 1 := by omega
    subst this
    rfl
  · rw [if_neg h, if_pos ⟨by simp, by omega, by omega, by simp⟩, Int.toNat_natCast]
    have : ∀ n, (List.replicate n [t]).flatten = List.replicate n t := fun n => by
      induction n with
      | zero => rfl
      | succ n ih => rw [List.replicate_succ, List.flatten_cons, ih]; rfl
    rw [this]
def sm4 (b : Brd) : Brd := (b.take 4).map fun q => q.take 4
theorem sm4_KB {b : Brd} {r c : Nat} (W : KB b r c) : KB (sm4 b) (min 4 r) (min 4 c) := by
  obtain ⟨p1, p2, p3, p4⟩ := W.pos
  refine kb_of (by omega) (by omega) (by omega) (by omega) (by unfold sm4; rw [List.length_map, List.length_take, W.len]) (fun q hq => ?_) (fun q hq => ?_)
  · obtain ⟨x, hx, rfl⟩ := List.mem_map.mp hq
    rw [List.length_take, W.row_len x (List.mem_of_mem_take hx)]
  · obtain ⟨x, hx, rfl⟩ := List.mem_map.mp hq
    exact fun k hk => W.ks x (List.mem_of_mem_take hx) k (List.mem_of_mem_take hk)
theorem even_ok {b : Brd} {r c : Nat} (W : KB b r c) {S : Sto} (hw : Cw S) : ∃ b' r' c' S1, F__law_even [.ref 1, eB b] S = .ok (eB b') S1 ∧ Ch S S1 ∧ KB b' r' c' := by
  obtain ⟨w, S1, e1, l1, w1⟩ := scoop0 hw (n := 4) (by omega) (by omega)
  replace e1 : F__law_scoop [.ref 1, .int 4] S = .ok (.int w) S1 := e1
  have Ws := sm4_KB W
  generalize hr' : min 4 r = r' at Ws
  generalize hc' : min 4 c = c' at Ws
  have hr4 : r' ≤ 4 := by omega
  have hc4 : c' ≤ 4 := by omega
  obtain ⟨p1, p2, p3, p4⟩ := Ws.pos
  have hC0 : ∀ (x2 x3 x4 x5 x7 : Option T) (S : Sto), C__law_even_0 [some (.ref 1), some (eB b), x2, x3, x4, x5, none, x7] S = .ok (.nlst ((sm4 b).map eR)) S := fun x2 x3 x4 x5 x7 S => by
    unfold C__law_even_0
    have hs : fSl (eB b) none (some 4) S = .ok (.tup ((b.take 4).map eR)) S := fst_B b 4 S
    rw [dLc_eq _ _ _ _ _ _ _ (dIt_eq (S1 := S) (t := .tup ((b.take 4).map eR)) (src := none) (ts := (b.take 4).map eR) (by
      have fB : fz (eB b) = eB b := rfl
      generalize (b.take 4).map eR = D at hs ⊢
      generalize eB b = B at *
      simp [fB, hs]) rfl)]
    rw [lcL_map (S := S) (src := none) trivial eR (fun _ => true) (fun q => eR (q.take 4)) (b.take 4) [] ?_ (by rw [PySem.sizeLine_eq]; simp; omega)]
    · rw [List.nil_append, List.filter_eq_self.mpr (fun _ _ => rfl)]
      unfold sm4
      rw [List.map_map]
      rfl
    · intro q hq
      have hs : fSl (eR q) none (some 4) S = .ok (.tup ((q.take 4).map T.str)) S := fst_R q 4 S
      have fR : fz (eR q) = eR q := rfl
      refine ⟨_, gN_eq _, rfl, fun _ => ⟨eR (q.take 4), ?_, rfl⟩⟩
      show _ = RE.ok (.tup ((q.take 4).map T.str)) S
      generalize (q.take 4).map T.str = D at hs ⊢
      generalize (b.take 4).map eR = D1
      generalize eR q = R at *
      simp [wipeT, fR, hs]
  have hC1 : ∀ (x1 x2 x4 x5 x7 : Option T) (S : Sto), C__law_even_1 [some (.ref 1), x1, x2, some (eB (sm4 b)), x4, x5, none, x7] S = .ok (.nlst (((sm4 b).map jn1).map T.str)) S := fun x1 x2 x4 x5 x7 S => by
    unfold C__law_even_1
    exact joinC (src := none) (dIt_eq (t := eB (sm4 b)) (by simp) rfl) trivial (by simp) (by have := Ws.len; omega) (fun q hq => by have := Ws.row_len q hq; omega) Ws.ks
  have hJ : ∀ S : Sto, fJoin (.str "") [.lst (((sm4 b).map jn1).map T.str)] S = .ok (.str (jnB (sm4 b))) S := fun S => fJB rfl (by have := Ws.len; omega) (fun q hq => by have := Ws.row_len q hq; omega) Ws.ks
  have mi := fun S : Sto => mirrored1_ok (S := S) Ws
  have Wm := mir_KB Ws
  have tu := fun S : Sto => turned1_ok (S := S) Ws
  have Wt := trn_KB Ws
  have tu2 := fun S : Sto => turned1_ok (S := S) Wt
  have Wtt := trn_KB Wt
  have tm := fun S : Sto => turned1_ok (S := S) Wm
  have Wtm := trn_KB Wm
  have tm2 := fun S : Sto => turned1_ok (S := S) Wtm
  have Wttm := trn_KB Wtm
  have fl := Ws.fl
  have f0 := Ws.f0
  have fl0 := fl_eR (Ws.row_len _ (Ws.rw_ p1))
  have hC2 : ∀ (x1 x2 x4 x5 x6 : Option T) (S : Sto), C__law_even_2 [some (.ref 1), x1, x2, some (eB (sm4 b)), x4, x5, x6, none] S = .ok (.nlst (((List.range r').map fun i => row (sm4 b) i ++ row (mir (sm4 b)) i).map eR)) S := fun x1 x2 x4 x5 x6 S => by
    unfold C__law_even_2
    rw [dLc_eq _ _ _ _ _ _ _ (dRng1_eq (n := r') (S1 := S) (by
      have fB : fz (eB (sm4 b)) = eB (sm4 b) := rfl
      generalize eB (sm4 b) = B at *
      simp [fB, fl]) (by omega))]
    rw [lcL_map (S := S) (src := none) trivial (fun i : Nat => T.int i) (fun _ => true) (fun i => eR (row (sm4 b) i ++ row (mir (sm4 b)) i)) (List.range r') [] ?_ (by rw [PySem.sizeLine_eq]; simp; omega)]
    · rw [List.nil_append, List.filter_eq_self.mpr (fun _ _ => rfl), List.map_map]
      rfl
    · intro i hi
      have hi' : i < r' := by simpa using hi
      have g1 := Ws.fi hi' S
      have g2 := Wm.fi hi' S
      have g3 := fa_R (a := row (sm4 b) i) (b := row (mir (sm4 b)) i) (by have := Ws.row_len _ (Ws.rw_ hi'); have := Wm.row_len _ (Wm.rw_ hi'); omega) S
      have mi := mi S
      have fB : fz (eB (sm4 b)) = eB (sm4 b) := rfl
      have fM : fz (eB (mir (sm4 b))) = eB (mir (sm4 b)) := rfl
      have fR1 : fz (eR (row (sm4 b) i)) = eR (row (sm4 b) i) := rfl
      have fR2 : fz (eR (row (mir (sm4 b)) i)) = eR (row (mir (sm4 b)) i) := rfl
      refine ⟨_, gN_eq _, rfl, fun _ => ⟨eR (row (sm4 b) i ++ row (mir (sm4 b)) i), ?_, rfl⟩⟩
      generalize eR (row (sm4 b) i ++ row (mir (sm4 b)) i) = E at *
      generalize eR (row (mir (sm4 b)) i) = R2 at *
      generalize eR (row (sm4 b) i) = R1 at *
      generalize eB (mir (sm4 b)) = M at *
      generalize eB (sm4 b) = B at *
      simp [wipeT, fB, fM, fR1, fR2, g1, g2, g3, mi]
  obtain ⟨B, hB⟩ : ∃ B, B = eB (sm4 b) := ⟨_, rfl⟩
  obtain ⟨B0, hB0⟩ : ∃ B, B = eB b := ⟨_, rfl⟩
  have fB : fz B = B := by rw [hB]; rfl
  have fB0 : fz B0 = B0 := by rw [hB0]; rfl
  rw [← hB0]
  simp only [← hB0] at hC0
  simp only [← hB] at hC1 hC2 mi tu fl f0
  let sh := fun (x3 x4 x5 : Option T) => [some (T.ref 1), some B0, some (.int (w : Nat)), x3, x4, x5, none, none]
  have i0 : (dSet 2 (dOwn 2 F__law_scoop (dCons (dVar 0) (dCons (dC (.int 4)) dNil)))) [some (.ref 1), some B0, none, none, none, none, none, none] S = .nx (sh none none none) S1 := by simp [sh, e1]
  have i1 : (dSet 3 (dCall fTuple (dCons C__law_even_0 dNil))) (sh none none none) S1 = .nx (sh (some B) none none) S1 := by
    have ft : fTuple [.lst ((sm4 b).map eR)] S1 = .ok B S1 := by rw [hB]; rfl
    generalize (sm4 b).map eR = D at hC0 ft
    simp [sh, hC0, ft, fB]
  have go : F__law_even [.ref 1, B0] S = gcR S (((dIf (dTest (dBin (fEq false) (dMeth "str" fJoin (dC (.str "")) (dCons C__law_even_1 dNil)) (dC (.str "")))) (dRet (dTup (dCons (dTup (dCons (dC (.str "dsu")) (dCons (dC (.str "du")) dNil))) (dCons (dTup (dCons (dC (.str "du")) (dCons (dC (.str "dsu")) dNil))) dNil)))) dNext) (sh (some B) none none) S1).seq (dSeq (dIf (dTest (dBin (fEq false) (dVar 2) (dC (.int 0)))) (dRet (dCall fTuple (dCons C__law_even_2 dNil))) dNext) (dSeq (dIf (dTest (dBin (fEq false) (dVar 2) (dC (.int 1)))) (dRet (dBin fAdd (dVar 3) (dOwn 1 F__law_turned_v1 (dCons (dOwn 1 F__law_turned_v1 (dCons (dOwn 1 F__law_mirrored_v1 (dCons (dVar 3) dNil)) dNil)) dNil)))) dNext) (dSeq (dSet 4 (dOwn 1 F__law_turned_v1 (dCons (dOwn 1 F__law_turned_v1 (dCons (dVar 3) dNil)) dNil))) (dSeq (dIf (dTest (dBin (fEq false) (dVar 2) (dC (.int 2)))) (dRet (dBin fAdd (dVar 3) (dVar 4))) dNext) (dSeq (dSet 5 (dBin fIx (dTup (dCons (dC (.str "dsu")) (dCons (dC (.str "du")) (dCons (dC (.str "s")) (dCons (dC (.str "ds")) dNil))))) (dOwn 2 F__law_scoop (dCons (dVar 0) (dCons (dC (.int 4)) dNil))))) (dRet (dBin fMul (dTup (dCons (dBin fMul (dTup (dCons (dVar 5) dNil)) (dCall fLen (dCons (dBin fIx (dVar 3) (dC (.int 0))) dNil))) dNil)) (dCall fLen (dCons (dVar 3) dNil)))))))))) := by
    unfold F__law_even
    rw [dFun_eq (np := 2) (n := 8) (ts := [.ref 1, B0]) rfl]
    show gcR S (b__law_even [some (.ref 1), some B0, none, none, none, none, none, none] S) = _
    unfold b__law_even
    rw [dSeq_eq, i0, RS.seq_nx, dSeq_eq, i1, RS.seq_nx, dSeq_eq]
  rw [go]
  have hT : (dTest (dBin (fEq false) (dMeth "str" fJoin (dC (.str "")) (dCons C__law_even_1 dNil)) (dC (.str "")))) (sh (some B) none none) S1 = .ok (decide (jnB (sm4 b) = "")) S1 := by
    have hm : mTy S1 (.str "") = some "str" := rfl
    generalize ((sm4 b).map jn1).map T.str = L at hC1 hJ
    simp [sh, hC1, hm, hJ]
  by_cases hz : jnB (sm4 b) = ""
  · refine ⟨[["dsu", "du"], ["du", "dsu"]], 2, 2, S1, ?_, w1, kb_of (by omega) (by omega) (by omega) (by omega) rfl (by decide) (by decide)⟩
    have : (dIf (dTest (dBin (fEq false) (dMeth "str" fJoin (dC (.str "")) (dCons C__law_even_1 dNil)) (dC (.str "")))) (dRet (dTup (dCons (dTup (dCons (dC (.str "dsu")) (dCons (dC (.str "du")) dNil))) (dCons (dTup (dCons (dC (.str "du")) (dCons (dC (.str "dsu")) dNil))) dNil)))) dNext) (sh (some B) none none) S1 = .rt (eB [["dsu", "du"], ["du", "dsu"]]) S1 := by
      rw [dIf_eq, hT, decide_eq_true hz]
      simp [eB, eR]
    rw [this]
    show gcR S (.rt _ S1) = _
    rw [gcR_rt, w1.gcT (lt_eB _ _)]
  have i2 : (dIf (dTest (dBin (fEq false) (dMeth "str" fJoin (dC (.str "")) (dCons C__law_even_1 dNil)) (dC (.str "")))) (dRet (dTup (dCons (dTup (dCons (dC (.str "dsu")) (dCons (dC (.str "du")) dNil))) (dCons (dTup (dCons (dC (.str "du")) (dCons (dC (.str "dsu")) dNil))) dNil)))) dNext) (sh (some B) none none) S1 = .nx (sh (some B) none none) S1 := by
    rw [dIf_eq, hT, decide_eq_false hz]
    rfl
  rw [i2, RS.seq_nx]
  by_cases h0 : w = 0
  · refine ⟨(List.range r').map fun i => row (sm4 b) i ++ row (mir (sm4 b)) i, r', c' + c', S1, ?_, w1, kb_of p1 (by omega) p3 (by omega) (by simp) (fun q hq => ?_) (fun q hq => ?_)⟩
    · have : (dIf (dTest (dBin (fEq false) (dVar 2) (dC (.int 0)))) (dRet (dCall fTuple (dCons C__law_even_2 dNil))) dNext) (sh (some B) none none) S1 = .rt (eB ((List.range r').map fun i => row (sm4 b) i ++ row (mir (sm4 b)) i)) S1 := by
        unfold eB
        generalize ((List.range r').map fun i => row (sm4 b) i ++ row (mir (sm4 b)) i).map eR = D at hC2 ⊢
        simp [sh, h0, hC2]
      rw [dSeq_eq, this]
      show gcR S (.rt _ S1) = _
      rw [gcR_rt, w1.gcT (lt_eB _ _)]
    · obtain ⟨i, hi, rfl⟩ := List.mem_map.mp hq
      have hi' : i < r' := by simpa using hi
      rw [List.length_append, Ws.row_len _ (Ws.rw_ hi'), Wm.row_len _ (Wm.rw_ hi')]
    · obtain ⟨i, hi, rfl⟩ := List.mem_map.mp hq
      have hi' : i < r' := by simpa using hi
      intro k hk
      rcases List.mem_append.mp hk with h | h
      · exact Ws.ks _ (Ws.rw_ hi') k h
      · exact Wm.ks _ (Wm.rw_ hi') k h
  have i3 : (dIf (dTest (dBin (fEq false) (dVar 2) (dC (.int 0)))) (dRet (dCall fTuple (dCons C__law_even_2 dNil))) dNext) (sh (some B) none none) S1 = .nx (sh (some B) none none) S1 := by simp [sh, h0]
  rw [dSeq_eq, i3, RS.seq_nx]
  by_cases h1 : w = 1
  · refine ⟨sm4 b ++ trn (trn (mir (sm4 b))), _, _, S1, ?_, w1, kb_app Ws Wttm (by omega)⟩
    have fa := fa_B (a := sm4 b) (b := trn (trn (mir (sm4 b)))) (by rw [Ws.len, Wttm.len]; omega) S1
    rw [← hB] at fa
    have fM : fz (eB (mir (sm4 b))) = eB (mir (sm4 b)) := rfl
    have fM1 : fz (eB (trn (mir (sm4 b)))) = eB (trn (mir (sm4 b))) := rfl
    have fM2 : fz (eB (trn (trn (mir (sm4 b))))) = eB (trn (trn (mir (sm4 b)))) := rfl
    have : (dIf (dTest (dBin (fEq false) (dVar 2) (dC (.int 1)))) (dRet (dBin fAdd (dVar 3) (dOwn 1 F__law_turned_v1 (dCons (dOwn 1 F__law_turned_v1 (dCons (dOwn 1 F__law_mirrored_v1 (dCons (dVar 3) dNil)) dNil)) dNil)))) dNext) (sh (some B) none none) S1 = .rt (eB (sm4 b ++ trn (trn (mir (sm4 b))))) S1 := by
      generalize eB (sm4 b ++ trn (trn (mir (sm4 b)))) = E at *
      generalize eB (trn (trn (mir (sm4 b)))) = M2 at *
      generalize eB (trn (mir (sm4 b))) = M1 at *
      generalize eB (mir (sm4 b)) = M at *
      simp [sh, h1, mi, tm, tm2, fa, fB, fM, fM1, fM2]
    rw [dSeq_eq, this]
    show gcR S (.rt _ S1) = _
    rw [gcR_rt, w1.gcT (lt_eB _ _)]
  have h1' : ¬ ((w : Nat) : Int) = 1 := by omega
  have i4 : (dIf (dTest (dBin (fEq false) (dVar 2) (dC (.int 1)))) (dRet (dBin fAdd (dVar 3) (dOwn 1 F__law_turned_v1 (dCons (dOwn 1 F__law_turned_v1 (dCons (dOwn 1 F__law_mirrored_v1 (dCons (dVar 3) dNil)) dNil)) dNil)))) dNext) (sh (some B) none none) S1 = .nx (sh (some B) none none) S1 := by simp [sh, h1, h1']
  rw [dSeq_eq, i4, RS.seq_nx]
  have fM1 : fz (eB (trn (sm4 b))) = eB (trn (sm4 b)) := rfl
  have fM2 : fz (eB (trn (trn (sm4 b)))) = eB (trn (trn (sm4 b))) := rfl
  have i5 : (dSet 4 (dOwn 1 F__law_turned_v1 (dCons (dOwn 1 F__law_turned_v1 (dCons (dVar 3) dNil)) dNil))) (sh (some B) none none) S1 = .nx (sh (some B) (some (eB (trn (trn (sm4 b))))) none) S1 := by
    generalize eB (trn (trn (sm4 b))) = M2 at *
    generalize eB (trn (sm4 b)) = M1 at *
    simp [sh, tu, tu2, fB, fM1, fM2]
  rw [dSeq_eq, i5, RS.seq_nx]
  by_cases h2 : w = 2
  · refine ⟨sm4 b ++ trn (trn (sm4 b)), _, _, S1, ?_, w1, kb_app Ws Wtt (by omega)⟩
    have fa := fa_B (a := sm4 b) (b := trn (trn (sm4 b))) (by rw [Ws.len, Wtt.len]; omega) S1
    rw [← hB] at fa
    have : (dIf (dTest (dBin (fEq false) (dVar 2) (dC (.int 2)))) (dRet (dBin fAdd (dVar 3) (dVar 4))) dNext) (sh (some B) (some (eB (trn (trn (sm4 b))))) none) S1 = .rt (eB (sm4 b ++ trn (trn (sm4 b)))) S1 := by
      generalize eB (sm4 b ++ trn (trn (sm4 b))) = E at *
      generalize eB (trn (trn (sm4 b))) = M2 at *
      simp [sh, h2, fa, fB, fM2]
    rw [dSeq_eq, this]
    show gcR S (.rt _ S1) = _
    rw [gcR_rt, w1.gcT (lt_eB _ _)]
  obtain ⟨M2, hM2⟩ : ∃ M2, M2 = eB (trn (trn (sm4 b))) := ⟨_, rfl⟩
  rw [← hM2]
  have h2' : ¬ ((w : Nat) : Int) = 2 := by omega
  have i6 : (dIf (dTest (dBin (fEq false) (dVar 2) (dC (.int 2)))) (dRet (dBin fAdd (dVar 3) (dVar 4))) dNext) (sh (some B) (some M2) none) S1 = .nx (sh (some B) (some M2) none) S1 := by simp [sh, h2, h2']
  rw [dSeq_eq, i6, RS.seq_nx]
  obtain ⟨k, S2, e2, l2, w2⟩ := scoop0 w1.w (n := 4) (by omega) (by omega)
  replace e2 : F__law_scoop [.ref 1, .int 4] S1 = .ok (.int k) S2 := e2
  obtain ⟨z, mz, fk⟩ : ∃ z : Str, z ∈ KS ∧ fIx (.tup [.str "dsu", .str "du", .str "s", .str "ds"]) (.int (k : Nat)) S2 = .ok (.str z) S2 := by
    obtain rfl | rfl | rfl | rfl : k = 0 ∨ k = 1 ∨ k = 2 ∨ k = 3 := by omega
    · exact ⟨"dsu", by decide, rfl⟩
    · exact ⟨"du", by decide, rfl⟩
    · exact ⟨"s", by decide, rfl⟩
    · exact ⟨"ds", by decide, rfl⟩
  have i7 : (dSet 5 (dBin fIx (dTup (dCons (dC (.str "dsu")) (dCons (dC (.str "du")) (dCons (dC (.str "s")) (dCons (dC (.str "ds")) dNil))))) (dOwn 2 F__law_scoop (dCons (dVar 0) (dCons (dC (.int 4)) dNil))))) (sh (some B) (some M2) none) S1 = .nx (sh (some B) (some M2) (some (.str z))) S2 := by
    simp [sh, e2, fk, -fIx_tup]
  have r1 := fm_rep (t := .str z) p2 p4 S2
  have r2 := fm_rep (t := .tup (List.replicate c' (.str z))) p1 p3 S2
  have fR : fz (eR (row (sm4 b) 0)) = eR (row (sm4 b) 0) := rfl
  have eE : T.tup (List.replicate r' (.tup (List.replicate c' (.str z)))) = eB (List.replicate r' (List.replicate c' z)) := by
    unfold eB eR
    rw [List.map_replicate, List.map_replicate]
  have i8 : (dRet (dBin fMul (dTup (dCons (dBin fMul (dTup (dCons (dVar 5) dNil)) (dCall fLen (dCons (dBin fIx (dVar 3) (dC (.int 0))) dNil))) dNil)) (dCall fLen (dCons (dVar 3) dNil)))) (sh (some B) (some M2) (some (.str z))) S2 = .rt (eB (List.replicate r' (List.replicate c' z))) S2 := by
    rw [← eE]
    clear eE
    generalize eR (row (sm4 b) 0) = R at *
    have fT1 : fz (.tup (List.replicate c' (.str z))) = .tup (List.replicate c' (.str z)) := rfl
    generalize T.tup (List.replicate r' (.tup (List.replicate c' (.str z)))) = E at *
    generalize T.tup (List.replicate c' (.str z)) = E1 at *
    simp [sh, fB, f0, fR, fl0, fl, r1, r2, fT1]
  refine ⟨List.replicate r' (List.replicate c' z), r', c', S2, ?_, w1.trans w2, kb_of p1 p2 p3 p4 (by simp) (fun q hq => ?_) (fun q hq => ?_)⟩
  · rw [dSeq_eq, i7, RS.seq_nx, i8, gcR_rt, (w1.trans w2).gcT (lt_eB _ _)]
  · rw [(List.mem_replicate.mp hq).2]; simp
  · rw [(List.mem_replicate.mp hq).2]
    intro k hk
    rw [(List.mem_replicate.mp hk).2]
    exact mz
end Bd

/-! the scene -/
namespace Bd
open PySem PySem.Spec L2 Dn Pk
theorem g8_KB {b : Brd} {r c : Nat} (W : KB b r c) {i : Nat} (h : i < 8) : ∃ r' c', KB (g8 b i) r' c' := by
  have hl : i < (e8 b).length := h
  have e : g8 b i = (e8 b)[i] := by unfold g8; rw [List.getElem?_eq_getElem hl]; rfl
  rw [e]
  exact e8_KB W _ (List.getElem_mem hl)
theorem scene_ok {b : Brd} {r c : Nat} (W : KB b r c) {S : Sto} (hw : Cw S) : ∃ S1, F__law_scene [.ref 1, eB b] S = .ok (.bl true) S1 ∧ Ch S S1 := by
  obtain ⟨p1, p2, p3, p4⟩ := W.pos
  have al := alone_ok (S := S) W
  have ei := law_eight_ok (S := S) W
  obtain ⟨at_, S1, e1, l1, w1⟩ := scoop0 hw (n := 8) (by omega) (by omega)
  replace e1 : F__law_scoop [.ref 1, .int 8] S = .ok (.int at_) S1 := e1
  obtain ⟨rg, cg, Wg⟩ := g8_KB W l1
  have as1 := asked_ok (S := S1) W Wg
  have al1 := alone_ok (S := S1) Wg
  obtain ⟨b1, S2, e2, w2, W1⟩ := changed_ok Wg w1.w
  obtain ⟨b2, S3, e3, w3, W2⟩ := changed_ok W w2.w
  obtain ⟨b3, S4, e4, w4, W3⟩ := board8_ok w3.w p1 p2 p3 p4
  have w14 := ((w1.trans w2).trans w3).trans w4
  have ix : ∀ S : Sto, fIx (.lst ((e8 b).map eB)) (.int (at_ : Nat)) S = .ok (eB (g8 b at_)) S := fun S => by
    have hl : at_ < (e8 b).length := l1
    rw [fIx_lst, atI_n, List.getElem?_map, List.getElem?_eq_getElem hl]
    unfold g8
    rw [List.getElem?_eq_getElem hl]
    rfl
  have fl := W.fl
  have f0 := W.f0
  have fl0 := fl_eR (W.row_len _ (W.rw_ p1))
  have hlen := W.len
  have fR : fz (eR (row b 0)) = eR (row b 0) := rfl
  obtain ⟨B, hB⟩ : ∃ B, B = eB b := ⟨_, rfl⟩
  have fB : fz B = B := by rw [hB]; rfl
  have asB : ∀ x : Brd, (∃ r' c', KB x r' c') → ∀ S : Sto, F__law_asked_v4 [B, eB x] S = .ok (.bl true) S := fun x ⟨r', c', h⟩ S => by rw [hB]; exact asked_ok (S := S) W h
  obtain ⟨G, hG⟩ : ∃ G, G = eB (g8 b at_) := ⟨_, rfl⟩
  have fG : fz G = G := by rw [hG]; rfl
  obtain ⟨E, hE⟩ : ∃ E, E = (e8 b).map eB := ⟨_, rfl⟩
  have asb4 : F__law_asked_v4 [B, eB (b ++ b.take 1)] S4 = .ok (.bl true) S4 ∨ ¬ r < 8 := by
    by_cases h : r < 8
    · refine .inl (asB _ ⟨r + 1, c, kb_app W (kb_of (by omega) p2 (by omega) p4 (by rw [List.length_take]; omega) (fun q hq => W.row_len q (List.mem_of_mem_take hq)) (fun q hq => W.ks q (List.mem_of_mem_take hq))) (by omega)⟩ _)
    · exact .inr h
  have fst : fSl (eB b) none (some (1 : Int)) S4 = .ok (.tup ((b.take 1).map eR)) S4 := fst_B b 1 S4
  have faB := fa_B (a := b) (b := b.take 1) (by rw [List.length_take]; omega) S4
  rw [show T.tup ((b.take 1).map eR) = eB (b.take 1) from rfl] at fst
  simp only [← hB, ← hG] at al ei as1 al1 e2 e3 ix fl f0 fst faB
  simp only [← hE] at ei ix
  rw [← hB]
  let sh := fun (x2 x3 x4 : Option T) => [some (T.ref 1), some B, x2, x3, x4]
  have i0 : (dIf (dNot (dTru (dOwn 1 F__law_alone (dCons (dVar 1) dNil)))) (dRet (dC (.bl false))) dNext) (sh none none none) S = .nx (sh none none none) S := by simp [sh, fB, al]
  have i1 : (dSet 2 (dOwn 1 F__law_eight (dCons (dVar 1) dNil))) (sh none none none) S = .nx (sh (some (.lst E)) none none) S := by simp [sh, fB, ei]
  have i2 : (dSet 3 (dOwn 2 F__law_scoop (dCons (dVar 0) (dCons (dC (.int 8)) dNil)))) (sh (some (.lst E)) none none) S = .nx (sh (some (.lst E)) (some (.int (at_ : Nat))) none) S1 := by simp [sh, e1]
  have i3 : (dIf (dOr (dNot (dTru (dOwn 2 F__law_asked_v4 (dCons (dVar 1) (dCons (dBin fIx (dVar 2) (dVar 3)) dNil))))) (dNot (dTru (dOwn 1 F__law_alone (dCons (dBin fIx (dVar 2) (dVar 3)) dNil))))) (dRet (dC (.bl false))) dNext) (sh (some (.lst E)) (some (.int (at_ : Nat))) none) S1 = .nx (sh (some (.lst E)) (some (.int (at_ : Nat))) none) S1 := by simp [sh, fB, fG, ix, as1, al1, -fIx_lst]
  have hd : dIt (dTup (dCons (dOwn 2 F__law_changed (dCons (dVar 0) (dCons (dBin fIx (dVar 2) (dVar 3)) dNil))) (dCons (dOwn 2 F__law_changed (dCons (dVar 0) (dCons (dVar 1) dNil))) (dCons (dOwn 3 F__law_board_v8 (dCons (dVar 0) (dCons (dCall fLen (dCons (dVar 1) dNil)) (dCons (dCall fLen (dCons (dBin fIx (dVar 1) (dC (.int 0))) dNil)) dNil)))) dNil)))) (sh (some (.lst E)) (some (.int (at_ : Nat))) none) S1 = .ok none ([b1, b2, b3].map eB) S4 := by
    refine dIt_eq (t := .tup [eB b1, eB b2, eB b3]) ?_ rfl
    have f1 : fz (eB b1) = eB b1 := rfl
    have f2 : fz (eB b2) = eB b2 := rfl
    have f3 : fz (eB b3) = eB b3 := rfl
    generalize eB b1 = X1 at *
    generalize eB b2 = X2 at *
    generalize eB b3 = X3 at *
    generalize eR (row b 0) = R at *
    simp [sh, fB, fG, fR, ix, e2, e3, e4, fl, f0, fl0, f1, f2, f3, -fIx_lst]
  have hf := for_all (src := none) (all := [b1, b2, b3].map eB) (g := gN 4) (b := L__law_scene_0) (S := S4) eB trivial (fun _ => true) (fun sl => ∃ x4, sl = sh (some (.lst E)) (some (.int (at_ : Nat))) x4) (.bl false) [b1, b2, b3] (by
    rintro x hx sl ⟨x4, rfl⟩
    have hW : ∃ r' c', KB x r' c' := by
      simp only [List.mem_cons, List.not_mem_nil, or_false] at hx
      rcases hx with rfl | rfl | rfl
      · exact ⟨_, _, W1⟩
      · exact ⟨_, _, W2⟩
      · exact ⟨_, _, W3⟩
    have q := asB x hW S4
    have fx : fz (eB x) = eB x := rfl
    refine ⟨_, gN_eq _, .inl ⟨rfl, sh (some (.lst E)) (some (.int (at_ : Nat))) (some (eB x)), .inl ?_, _, rfl⟩⟩
    generalize eB x = X at *
    simp [L__law_scene_0, sh, fB, fx, q]) (sh (some (.lst E)) (some (.int (at_ : Nat))) none) ⟨_, rfl⟩
  obtain ⟨x4, hf⟩ : ∃ x4, forL none ([b1, b2, b3].map eB) (gN 4) L__law_scene_0 ([b1, b2, b3].map eB) (sh (some (.lst E)) (some (.int (at_ : Nat))) none) S4 = .nx (sh (some (.lst E)) (some (.int (at_ : Nat))) x4) S4 := by
    rcases hf with ⟨_, sl', q, x4, rfl⟩ | ⟨q, _⟩
    · exact ⟨x4, q⟩
    · simp at q
  have hF := dFor_eq (dIt (dTup (dCons (dOwn 2 F__law_changed (dCons (dVar 0) (dCons (dBin fIx (dVar 2) (dVar 3)) dNil))) (dCons (dOwn 2 F__law_changed (dCons (dVar 0) (dCons (dVar 1) dNil))) (dCons (dOwn 3 F__law_board_v8 (dCons (dVar 0) (dCons (dCall fLen (dCons (dVar 1) dNil)) (dCons (dCall fLen (dCons (dBin fIx (dVar 1) (dC (.int 0))) dNil)) dNil)))) dNil))))) (gN 4) L__law_scene_0 (sh (some (.lst E)) (some (.int (at_ : Nat))) none) S1 hd
  have i5 : (dRet (dIfE (dTest (dBin fLT (dCall fLen (dCons (dVar 1) dNil)) (dC (.int 8)))) (dOwn 2 F__law_asked_v4 (dCons (dVar 1) (dCons (dBin fAdd (dVar 1) (dSl (dVar 1) dNoPart (dPart (dC (.int 1))))) dNil))) (dC (.bl true)))) (sh (some (.lst E)) (some (.int (at_ : Nat))) x4) S4 = .rt (.bl true) S4 := by
    have f5 : fz (eB (b.take 1)) = eB (b.take 1) := rfl
    have f6 : fz (eB (b ++ b.take 1)) = eB (b ++ b.take 1) := rfl
    generalize eB (b ++ b.take 1) = Y at *
    generalize eB (b.take 1) = Z at *
    by_cases h : r < 8
    · rcases asb4 with q | q
      · have h' : ((r : Nat) : Int) < 8 := by omega
        simp [sh, fl, h, h', fB, fst, faB, f5, f6, q]
      · exact absurd h q
    · have h' : ¬ ((r : Nat) : Int) < 8 := by omega
      simp [sh, fl, h, h', fB]
  refine ⟨S4, ?_, w14⟩
  unfold F__law_scene
  rw [dFun_eq (np := 2) (n := 5) (ts := [.ref 1, B]) rfl]
  show gcR S (b__law_scene (sh none none none) S) = _
  unfold b__law_scene
  rw [dSeq_eq, i0, RS.seq_nx, dSeq_eq, i1, RS.seq_nx, dSeq_eq, i2, RS.seq_nx, dSeq_eq, i3, RS.seq_nx, dSeq_eq, hF, hf, RS.seq_nx, i5, gcR_rt, w14.gcT rfl]
theorem lap_ok {F : T} {S : Sto} (hw : Cw S) (x2 x3 x4 x5 : Option T) : ∃ x3' S1, L_law_v10_0 [some F, some (.ref 1), x2, x3, x4, x5] S = .nx [some F, some (.ref 1), x2, x3', x4, x5] S1 ∧ Ch S S1 := by
  obtain ⟨i, S1, e1, l1, w1⟩ := scoop0 hw (n := 5) (by omega) (by omega)
  obtain ⟨j, S2, e2, l2, w2⟩ := scoop0 w1.w (n := 5) (by omega) (by omega)
  replace e1 : F__law_scoop [.ref 1, .int 5] S = .ok (.int i) S1 := e1
  replace e2 : F__law_scoop [.ref 1, .int 5] S1 = .ok (.int j) S2 := e2
  obtain ⟨b, S3, e3, w3, W⟩ := board8_ok w2.w (r := 1 + i) (c := 1 + j) (by omega) (by omega) (by omega) (by omega)
  have ci : ((1 + i : Nat) : Int) = 1 + (i : Int) := by omega
  have cj : ((1 + j : Nat) : Int) = 1 + (j : Int) := by omega
  rw [ci, cj] at e3
  obtain ⟨S4, e4, w4⟩ := scene_ok W w3.w
  obtain ⟨b', r', c', S5, e5, w5, W'⟩ := even_ok W w4.w
  have al := alone_ok (S := S5) W'
  have fB : fz (eB b) = eB b := rfl
  have fB' : fz (eB b') = eB b' := rfl
  refine ⟨some (eB b), S5, ?_, (((w1.trans w2).trans w3).trans w4).trans w5⟩
  generalize eB b = B at *
  generalize eB b' = B' at *
  have d0 : (dSet 3 (dOwn 3 F__law_board_v8 (dCons (dVar 1) (dCons (dBin fAdd (dC (.int 1)) (dOwn 2 F__law_scoop (dCons (dVar 1) (dCons (dC (.int 5)) dNil)))) (dCons (dBin fAdd (dC (.int 1)) (dOwn 2 F__law_scoop (dCons (dVar 1) (dCons (dC (.int 5)) dNil)))) dNil))))) [some F, some (.ref 1), x2, x3, x4, x5] S = .nx [some F, some (.ref 1), x2, some B, x4, x5] S3 := by
    simp [e1, e2, e3, fB]
  have d1 : (dIf (dOr (dNot (dTru (dOwn 2 F__law_scene (dCons (dVar 1) (dCons (dVar 3) dNil))))) (dNot (dTru (dOwn 1 F__law_alone (dCons (dOwn 2 F__law_even (dCons (dVar 1) (dCons (dVar 3) dNil))) dNil))))) (dRet (dC (.bl false))) dNext) [some F, some (.ref 1), x2, some B, x4, x5] S3 = .nx [some F, some (.ref 1), x2, some B, x4, x5] S5 := by
    simp [fB, fB', e4, e5, al]
  unfold L_law_v10_0
  rw [dSeq_eq, d0, RS.seq_nx, d1]
end Bd

/-! the law k36 -/
namespace Bd
open PySem PySem.Spec L2 Dn Pk
/-! ### by hand -/
abbrev b12 (l z : Str) : Brd := [[l, z]]
abbrev b21 (l z : Str) : Brd := [[l], [z]]
abbrev b22 (l : Str) : Brd := [["s", l], ["", ""]]
structure HD (l o : Str) : Prop where
  k1 : lkG (b12 l "s") (b21 o "s") = some 1
  k2 : g8 (b12 l "s") 2 = b12 "s" l
  k3 : ((e8 (b12 l "")).countP fun x => decide (x = b12 l "")) = 1
  k4 : decide (b22 l ∈ e8 (b12 l "s")) = false
  k5 : lf (b12 o "") = b21 "" "d"
  ml : l ∈ KS
  mo : o ∈ KS
theorem hd_du : HD "d" "u" := ⟨by decide +kernel, by decide +kernel, by decide +kernel, by decide +kernel, by decide +kernel, by decide, by decide⟩
theorem hd_ud : HD "u" "d" := ⟨by decide +kernel, by decide +kernel, by decide +kernel, by decide +kernel, by decide +kernel, by decide, by decide⟩
def b44 : Brd := [["dsu", "dsu", "dsu", "dsu"], ["dsu", "dsu", "dsu", "dsu"], ["dsu", "dsu", "dsu", "dsu"], ["dsu", "dsu", "dsu", "dsu"]]
theorem k44 : ((e8 b44).countP fun x => decide (x = b44)) = 8 := by decide +kernel
theorem W44 : KB b44 4 4 := kb_of (by decide) (by decide) (by decide) (by decide) rfl (by decide) (by decide)
theorem KS_s : ("s" : Str) ∈ KS ∧ ("" : Str) ∈ KS := by decide
theorem W12 {l z : Str} (h : l ∈ KS) (hz : z ∈ KS) : KB (b12 l z) 1 2 := kb_of (by decide) (by decide) (by decide) (by decide) rfl (fun q hq => by rw [List.mem_singleton.mp hq]; rfl) (fun q hq => by
  rw [List.mem_singleton.mp hq]
  intro k hk
  simp only [List.mem_cons, List.not_mem_nil, or_false] at hk
  rcases hk with rfl | rfl
  · exact h
  · exact hz)
theorem W21 {l z : Str} (h : l ∈ KS) (hz : z ∈ KS) : KB (b21 l z) 2 1 := kb_of (by decide) (by decide) (by decide) (by decide) rfl (fun q hq => by
  simp only [List.mem_cons, List.not_mem_nil, or_false] at hq
  rcases hq with rfl | rfl <;> rfl) (fun q hq => by
  simp only [List.mem_cons, List.not_mem_nil, or_false] at hq
  rcases hq with rfl | rfl <;> (intro k hk; rw [List.mem_singleton.mp hk]; first | exact h | exact hz))
theorem W22 {l : Str} (h : l ∈ KS) : KB (b22 l) 2 2 := kb_of (by decide) (by decide) (by decide) (by decide) rfl (fun q hq => by
  simp only [List.mem_cons, List.not_mem_nil, or_false] at hq
  rcases hq with rfl | rfl <;> rfl) (fun q hq => by
  simp only [List.mem_cons, List.not_mem_nil, or_false] at hq
  rcases hq with rfl | rfl
  · intro k hk
    simp only [List.mem_cons, List.not_mem_nil, or_false] at hk
    rcases hk with rfl | rfl
    · exact KS_s.1
    · exact h
  · intro k hk
    simp only [List.mem_cons, List.not_mem_nil, or_false] at hk
    rcases hk with rfl | rfl <;> exact KS_s.2)
section
variable {F : T} {l o : Str} {x2 x3 : Option T} {S : Sto} (H : HD l o)
include H
theorem hand4 : (dIf (dNot (dTru (dOwn 2 F__law_same_v3 (dCons (dOwnK 0 2 [0, 1] 2 F_likeness dNil (dCons (dTup (dCons (dTup (dCons (dVar 4) (dCons (dC (.str "s")) dNil))) dNil)) (dCons (dTup (dCons (dTup (dCons (dVar 5) dNil)) (dCons (dTup (dCons (dC (.str "s")) dNil)) dNil))) dNil))) (dCons (dTup (dCons (dC (.bl false)) (dCons (dC (.int 1)) dNil))) dNil))))) (dRet (dC (.bl false))) dNext) [some F, some (.ref 1), x2, x3, some (.str l), some (.str o)] S = .nx [some F, some (.ref 1), x2, x3, some (.str l), some (.str o)] S := by
  have h1 := likeness_ok (S := S) (W12 H.ml KS_s.1) (W21 H.mo KS_s.1).ks
  rw [H.k1] at h1
  have h2 := same_lk (some 1) (S := S)
  replace h1 : F_likeness [.tup [.tup [.str l, .str "s"]], .tup [.tup [.str o], .tup [.str "s"]]] S = .ok (.tup [.bl false, .int 1]) S := h1
  replace h2 : F__law_same_v3 [.tup [.bl false, .int 1], .tup [.bl false, .int 1]] S = .ok (.bl true) S := h2
  simp [h1, h2, permL]
theorem hand5 : (dIf (dOr (dNot (dTru (dOwn 2 F__law_same_v3 (dCons (dBin fIx (dOwnK 0 1 [0] 1 F_eight_boards dNil (dCons (dTup (dCons (dTup (dCons (dVar 4) (dCons (dC (.str "s")) dNil))) dNil)) dNil)) (dC (.int 2))) (dCons (dTup (dCons (dTup (dCons (dC (.str "s")) (dCons (dVar 4) dNil))) dNil)) dNil))))) (dTest (dBin (fEq true) (dOwn 1 F_symmetry_count (dCons (dTup (dCons (dTup (dCons (dVar 4) (dCons (dC (.str "")) dNil))) dNil)) dNil)) (dC (.int 1))))) (dRet (dC (.bl false))) dNext) [some F, some (.ref 1), x2, x3, some (.str l), some (.str o)] S = .nx [some F, some (.ref 1), x2, x3, some (.str l), some (.str o)] S := by
  have h1 := eight_boards_ok (S := S) (W12 H.ml KS_s.1)
  replace h1 : F_eight_boards [.tup [.tup [.str l, .str "s"]]] S = .ok (.tup ((e8 (b12 l "s")).map eB)) S := h1
  have h2 : fIx (.tup ((e8 (b12 l "s")).map eB)) (.int 2) S = .ok (.tup [.tup [.str "s", .str l]]) S := by
    have : fIx (.tup ((e8 (b12 l "s")).map eB)) (.int 2) S = .ok (eB (g8 (b12 l "s") 2)) S := rfl
    rw [this, H.k2]
    rfl
  have h3 := same_B (W12 KS_s.1 H.ml) (S := S)
  replace h3 : F__law_same_v3 [.tup [.tup [.str "s", .str l]], .tup [.tup [.str "s", .str l]]] S = .ok (.bl true) S := h3
  have h4 := symmetry_ok (S := S) (W12 H.ml KS_s.2)
  rw [H.k3] at h4
  replace h4 : F_symmetry_count [.tup [.tup [.str l, .str ""]]] S = .ok (.int 1) S := h4
  generalize (e8 (b12 l "s")).map eB = E at h1 h2
  simp [h1, h2, h3, h4, permL, -fIx_tup]
theorem hand6 : (dIf (dNot (dTru (dOwn 2 F__law_same_v3 (dCons (dOwnK 0 2 [0, 1] 2 F_are_alike dNil (dCons (dTup (dCons (dTup (dCons (dVar 4) (dCons (dC (.str "s")) dNil))) dNil)) (dCons (dTup (dCons (dTup (dCons (dC (.str "s")) (dCons (dVar 4) dNil))) (dCons (dTup (dCons (dC (.str "")) (dCons (dC (.str "")) dNil))) dNil))) dNil))) (dCons (dC (.bl false)) dNil))))) (dRet (dC (.bl false))) dNext) [some F, some (.ref 1), x2, x3, some (.str l), some (.str o)] S = .nx [some F, some (.ref 1), x2, x3, some (.str l), some (.str o)] S := by
  have h1 := are_alike_ok (S := S) (W12 H.ml KS_s.1) (W22 H.ml)
  rw [H.k4] at h1
  replace h1 : F_are_alike [.tup [.tup [.str l, .str "s"]], .tup [.tup [.str "s", .str l], .tup [.str "", .str ""]]] S = .ok (.bl false) S := h1
  have h2 := same_bl false (S := S)
  simp [h1, h2, permL]
theorem hand7 : (dIf (dOr (dNot (dTru (dOwn 2 F__law_same_v3 (dCons (dOwnK 0 1 [0] 1 F_symmetry_count dNil (dCons (dBin fMul (dTup (dCons (dBin fMul (dTup (dCons (dC (.str "dsu")) dNil)) (dC (.int 4))) dNil)) (dC (.int 4))) dNil)) (dCons (dC (.int 8)) dNil))))) (dNot (dTru (dOwn 2 F__law_same_v3 (dCons (dOwnK 0 1 [0] 1 F_least_form dNil (dCons (dTup (dCons (dTup (dCons (dVar 5) (dCons (dC (.str "")) dNil))) dNil)) dNil)) (dCons (dTup (dCons (dTup (dCons (dC (.str "")) dNil)) (dCons (dTup (dCons (dC (.str "d")) dNil)) dNil))) dNil)))))) (dRet (dC (.bl false))) dNext) [some F, some (.ref 1), x2, x3, some (.str l), some (.str o)] S = .nx [some F, some (.ref 1), x2, x3, some (.str l), some (.str o)] S := by
  have h1 := symmetry_ok (S := S) W44
  rw [k44] at h1
  replace h1 : F_symmetry_count [.tup [.tup [.str "dsu", .str "dsu", .str "dsu", .str "dsu"], .tup [.str "dsu", .str "dsu", .str "dsu", .str "dsu"], .tup [.str "dsu", .str "dsu", .str "dsu", .str "dsu"], .tup [.str "dsu", .str "dsu", .str "dsu", .str "dsu"]]] S = .ok (.int 8) S := h1
  have h2 := same_int 8 (S := S)
  have h3 := least_form_ok (S := S) (W12 H.mo KS_s.2)
  rw [H.k5] at h3
  replace h3 : F_least_form [.tup [.tup [.str o, .str ""]]] S = .ok (.tup [.tup [.str ""], .tup [.str "d"]]) S := h3
  have h4 := same_B (W21 (l := "") (z := "d") (by decide) (by decide)) (S := S)
  replace h4 : F__law_same_v3 [.tup [.tup [.str ""], .tup [.str "d"]], .tup [.tup [.str ""], .tup [.str "d"]]] S = .ok (.bl true) S := h4
  simp [h1, h2, h3, h4, permL]
end
theorem law_true : ∀ ns : List Int, ns.length ≤ 63 → ∃ S', F_law_v10 [.flst (ns.map T.int)] [] = .ok (.bl true) S' := by
  intro ns hl
  obtain ⟨m, ds, hds, e0⟩ := bowl_ok hl
  obtain ⟨F, hF⟩ : ∃ F : T, F = .flst (ns.map T.int) := ⟨_, rfl⟩
  have fF : fz F = F := by rw [hF]; rfl
  rw [← hF] at e0 ⊢
  have hW : Cw [.lst (ds.map T.int), .lst [.ref 0, .int m]] := ⟨m, ds, hds, rfl, rfl⟩
  let sh := fun (x2 x3 x4 x5 : Option T) => [some F, some (T.ref 1), x2, x3, x4, x5]
  have i0 : (dSetM 1 (dOwn 1 F__law_bowl (dCons (dVar 0) dNil))) [some F, none, none, none, none, none] [] = .nx (sh none none none none) [.lst (ds.map T.int), .lst [.ref 0, .int m]] := by
    simp [sh, fF, e0]
  generalize ([.lst (ds.map T.int), .lst [.ref 0, .int m]] : Sto) = S0 at i0 hW
  obtain ⟨sl', S', q1, S1, x2, x3, rfl, w1, rfl⟩ := forL_inv (src := none) (all := (List.range 2).map fun k => T.int (k : Nat)) (g := gN 2) (b := L_law_v10_0) (fun k : Nat => T.int k)
    (fun xs sl St => ∃ (S1 : Sto) (x2 x3 : Option T), St = S1 ∧ Ch S0 S1 ∧ sl = sh x2 x3 none none) (fun _ _ _ _ => trivial) (by
      rintro k xs sl St ⟨S1, x2, x3, rfl, w, rfl⟩
      obtain ⟨x3', S2, e, w2⟩ := lap_ok (F := F) w.w (some (.int (k : Nat))) x3 none none
      exact ⟨_, _, _, _, gN_eq _, .inl e, S2, _, _, rfl, w.trans w2, rfl⟩)
    (List.range 2) (sh none none none none) S0 ⟨S0, none, none, rfl, .refl hW, rfl⟩
  have hf := dFor_eq (dRng1 (dCons (dC (.int 2)) dNil)) (gN 2) L_law_v10_0 (sh none none none none) S0 (dRng1_eq (n := 2) (S1 := S0) rfl (by omega))
  obtain ⟨k, S2, e2, l2, w2⟩ := scoop0 w1.w (n := 2) (by omega) (by omega)
  replace e2 : F__law_scoop [.ref 1, .int 2] S' = .ok (.int k) S2 := e2
  obtain ⟨l, o, H, i2, i3⟩ : ∃ l o, HD l o ∧ (dSet 4 (dBin fIx (dC (.str "du")) (dOwn 2 F__law_scoop (dCons (dVar 1) (dCons (dC (.int 2)) dNil))))) (sh x2 x3 none none) S' = .nx (sh x2 x3 (some (.str l)) none) S2 ∧ (dSet 5 (dBin fIx (dC (.str "ud")) (dOrElse (dIndexT (dC (.str "du")) (dCons (dVar 4) dNil)) (dOrElse (dMeth "str" fIndexS (dC (.str "du")) (dCons (dVar 4) dNil)) (dMeth "list" fIndexL (dC (.str "du")) (dCons (dVar 4) dNil)))))) (sh x2 x3 (some (.str l)) none) S2 = .nx (sh x2 x3 (some (.str l)) (some (.str o))) S2 := by
    have g0 : fIx (.str "du") (.int ((0 : Nat) : Int)) S2 = .ok (.str "d") S2 := rfl
    have g1 : fIx (.str "du") (.int ((1 : Nat) : Int)) S2 = .ok (.str "u") S2 := rfl
    obtain rfl | rfl : k = 0 ∨ k = 1 := by omega
    · refine ⟨"d", "u", hd_du, ?_, ?_⟩
      · have : (dBin fIx (dC (.str "du")) (dOwn 2 F__law_scoop (dCons (dVar 1) (dCons (dC (.int 2)) dNil)))) (sh x2 x3 none none) S' = .ok (.str "d") S2 := by
          simp only [dBin_eq, dC_eq, RE.bind_ok, fz_str, sh, dOwn_eq, dCons_eq, dVar_eq, List.getElem?_cons_zero, List.getElem?_cons_succ, varR_some, dNil_eq, RE.consA_ok, RA.cons_ok, RA.bind_ok, fz_ref, fz_int, e2, g0]
          rfl
        rw [dSet_eq, this]
        rfl
      · have g : (dOrElse (dIndexT (dC (.str "du")) (dCons (dVar 4) dNil)) (dOrElse (dMeth "str" fIndexS (dC (.str "du")) (dCons (dVar 4) dNil)) (dMeth "list" fIndexL (dC (.str "du")) (dCons (dVar 4) dNil)))) (sh x2 x3 (some (.str "d")) none) S2 = .ok (.int 0) S2 := by
          have h0 : Builtin.Str.occurrences ("du" : Str) ("d" : Str) 0 ("du" : Str).length 1 = [0] := by decide +kernel
          have h : fIndexS (.str "du") [.str "d"] S2 = .ok (.int 0) S2 := by
            unfold fIndexS
            simp only [h0]
            rfl
          have hm : mTy S2 (.str "du") = some "str" := rfl
          simp [sh, h, hm, ixtR]
        have g2 : fIx (.str "ud") (.int 0) S2 = .ok (.str "u") S2 := rfl
        generalize (dOrElse (dIndexT (dC (.str "du")) (dCons (dVar 4) dNil)) (dOrElse (dMeth "str" fIndexS (dC (.str "du")) (dCons (dVar 4) dNil)) (dMeth "list" fIndexL (dC (.str "du")) (dCons (dVar 4) dNil)))) = de at g ⊢
        have : (dBin fIx (dC (.str "ud")) de) (sh x2 x3 (some (.str "d")) none) S2 = .ok (.str "u") S2 := by
          simp only [dBin_eq, dC_eq, RE.bind_ok, fz_str, g, fz_int, g2]
        rw [dSet_eq, this]
        rfl
    · refine ⟨"u", "d", hd_ud, ?_, ?_⟩
      · have : (dBin fIx (dC (.str "du")) (dOwn 2 F__law_scoop (dCons (dVar 1) (dCons (dC (.int 2)) dNil)))) (sh x2 x3 none none) S' = .ok (.str "u") S2 := by
          simp only [dBin_eq, dC_eq, RE.bind_ok, fz_str, sh, dOwn_eq, dCons_eq, dVar_eq, List.getElem?_cons_zero, List.getElem?_cons_succ, varR_some, dNil_eq, RE.consA_ok, RA.cons_ok, RA.bind_ok, fz_ref, fz_int, e2, g1]
          rfl
        rw [dSet_eq, this]
        rfl
      · have g : (dOrElse (dIndexT (dC (.str "du")) (dCons (dVar 4) dNil)) (dOrElse (dMeth "str" fIndexS (dC (.str "du")) (dCons (dVar 4) dNil)) (dMeth "list" fIndexL (dC (.str "du")) (dCons (dVar 4) dNil)))) (sh x2 x3 (some (.str "u")) none) S2 = .ok (.int 1) S2 := by
          have h0 : Builtin.Str.occurrences ("du" : Str) ("u" : Str) 0 ("du" : Str).length 1 = [1] := by decide +kernel
          have h : fIndexS (.str "du") [.str "u"] S2 = .ok (.int 1) S2 := by
            unfold fIndexS
            simp only [h0]
            rfl
          have hm : mTy S2 (.str "du") = some "str" := rfl
          simp [sh, h, hm, ixtR]
        have g2 : fIx (.str "ud") (.int 1) S2 = .ok (.str "d") S2 := rfl
        generalize (dOrElse (dIndexT (dC (.str "du")) (dCons (dVar 4) dNil)) (dOrElse (dMeth "str" fIndexS (dC (.str "du")) (dCons (dVar 4) dNil)) (dMeth "list" fIndexL (dC (.str "du")) (dCons (dVar 4) dNil)))) = de at g ⊢
        have : (dBin fIx (dC (.str "ud")) de) (sh x2 x3 (some (.str "u")) none) S2 = .ok (.str "d") S2 := by
          simp only [dBin_eq, dC_eq, RE.bind_ok, fz_str, g, fz_int, g2]
        rw [dSet_eq, this]
        rfl
  have i4 := hand4 (F := F) (x2 := x2) (x3 := x3) (S := S2) H
  have i5 := hand5 (F := F) (x2 := x2) (x3 := x3) (S := S2) H
  have i6 := hand6 (F := F) (x2 := x2) (x3 := x3) (S := S2) H
  have i7 := hand7 (F := F) (x2 := x2) (x3 := x3) (S := S2) H
  obtain ⟨t, S3, e3, l3, w3⟩ := scoop0 w2.w (n := 7) (by omega) (by omega)
  replace e3 : F__law_scoop [.ref 1, .int 7] S2 = .ok (.int t) S3 := e3
  have i8 : ∃ S4, (dRet (dOrV (dBin (fEq true) (dOwn 2 F__law_scoop (dCons (dVar 1) (dCons (dC (.int 7)) dNil))) (dC (.int 4))) (dOwn 2 F__law_scene (dCons (dVar 1) (dCons (dOwn 3 F__law_board_v8 (dCons (dVar 1) (dCons (dC (.int 8)) (dCons (dBin fAdd (dC (.int 7)) (dOwn 2 F__law_scoop (dCons (dVar 1) (dCons (dC (.int 2)) dNil)))) dNil)))) dNil))))) (sh x2 x3 (some (.str l)) (some (.str o))) S2 = .rt (.bl true) S4 := by
    by_cases h : t = 4
    · obtain ⟨j, S4, e4, l4, w4⟩ := scoop0 w3.w (n := 2) (by omega) (by omega)
      replace e4 : F__law_scoop [.ref 1, .int 2] S3 = .ok (.int j) S4 := e4
      obtain ⟨b, S5, e5, w5, W⟩ := board8_ok w4.w (r := 8) (c := 7 + j) (by omega) (by omega) (by omega) (by omega)
      have cj : ((7 + j : Nat) : Int) = 7 + (j : Int) := by omega
      rw [cj] at e5
      replace e5 : F__law_board_v8 [.ref 1, .int 8, .int (7 + (j : Int))] S4 = .ok (eB b) S5 := e5
      obtain ⟨S6, e6, w6⟩ := scene_ok W w5.w
      have fB : fz (eB b) = eB b := rfl
      generalize eB b = B at *
      refine ⟨S6, ?_⟩
      simp [sh, e3, h, e4, e5, e6, fB]
    · have h' : ¬ ((t : Nat) : Int) = 4 := by omega
      exact ⟨S3, by simp [sh, e3, h, h']⟩
  obtain ⟨S4, i8⟩ := i8
  have cutN : ∀ S : Sto, CutOk [] S := fun S => ⟨Nat.zero_le _, fun i hi => by simp at hi⟩
  refine ⟨S4.take 0, ?_⟩
  unfold F_law_v10
  rw [dFun_eq (np := 1) (n := 6) (ts := [F]) rfl]
  show gcR [] (b_law_v10 [some F, none, none, none, none, none] []) = _
  unfold b_law_v10
  rw [dSeq_eq, i0, RS.seq_nx, dSeq_eq, hf, q1, RS.seq_nx, dSeq_eq, i2, RS.seq_nx, dSeq_eq, i3, RS.seq_nx, dSeq_eq, i4, RS.seq_nx, dSeq_eq, i5, RS.seq_nx, dSeq_eq, i6, RS.seq_nx, dSeq_eq, i7, RS.seq_nx, i8, gcR_rt, gcT_cut (cutN S4) (by rfl)]
  rfl
end Bd

namespace Gk36
open PySem PySem.Spec L2 Dn Pk
def top (i : Nat) : Stmt := PySem.Challenge.pw_lightled_k36_alikes.main.body.getD i (.Pass ⟨0, 0, 0, 0⟩)
abbrev FnP (K : PySem.W.Frag) (x : Str) (st : Stmt) (f : Addr) (fd : FuncData) : Prop := FunD K x x (defArgs st) (defBody st) (defScope st) [] [] f fd
structure Fx (K : PySem.W.Frag) (w : World) (mg : Str → Option Value) : Prop where
  f_abs : mg "abs" = none
  f_bool : mg "bool" = none
  f_int : mg "int" = none
  f_isinstance : mg "isinstance" = none
  f_len : mg "len" = none
  f_list : mg "list" = none
  f_min : mg "min" = none
  f_range : mg "range" = none
  f_str : mg "str" = none
  f_tuple : mg "tuple" = none
  g_LETTERS : GC K w mg "LETTERS" c_LETTERS
  g_EXCHANGED : GC K w mg "EXCHANGED" c_EXCHANGED
  g_WAYS : GC K w mg "WAYS" c_WAYS
abbrev s__law_bowl : Stmt := top 21
def D__law_bowl : He.DefD := ⟨("_law_bowl", none), "_law_bowl", "_law_bowl", defArgs s__law_bowl, defBody s__law_bowl, defScope s__law_bowl, [], []⟩
theorem o__law_bowl {P : Program} {w : World} {K : PySem.W.Frag} {mg : Str → Option Value} {base : Heap} {f : Addr} {fd : FuncData} (h : Fx K w mg) (F : FnP K "_law_bowl" s__law_bowl f fd) (hm : mg "_law_bowl" = some (.ref f)) : OwnAt P w K mg base 1 "_law_bowl" ["script"] F__law_bowl f fd := by
  have sc : FnScope ["script", "left", "stirred", "at", "cell"] ["script"] (defScope s__law_bowl) := ⟨rfl, rfl, rfl, by decide +kernel, rfl, by decide +kernel, by decide +kernel⟩
  refine own_of (d := D__law_bowl) (N := ["script", "left", "stirred", "at", "cell"]) (ds := b__law_bowl) F hm sc (fun _ _ _ _ _ _ us hl => match us, hl with | [_], _ => rfl) fun cdv A outer s H E hr => ?_
  unfold b__law_bowl L__law_bowl_0
  exact (lss_cons (ls_setM (ps_set (i := 1) sc.nd rfl (by first | exact Or.inl rfl | exact Or.inr rfl) (le_lst la_nil)))
  (lss_cons (ls_set (ps_set (i := 2) sc.nd rfl (by first | exact Or.inl rfl | exact Or.inr rfl) le_i))
  (lss_cons (ls_for (passes_of rfl) rfl (li_rng1 rfl h.f_range (la_cons (le_min2 rfl rfl h.f_min (la_cons (le_len rfl h.f_len (la_cons (le_var (pv 0)) la_nil)) (la_cons le_i la_nil))) la_nil)) (lg_name (pg_name (i := 3) sc.nd rfl (by first | exact Or.inl rfl | exact Or.inr rfl)))
  (lss_cons (ls_set (ps_set (i := 4) sc.nd rfl (by first | exact Or.inl rfl | exact Or.inr rfl) (le_abs rfl h.f_abs (la_cons (le_int rfl h.f_int (la_cons (le_ix (hu65 hr) (le_var (pv 0)) (le_var (pv 3))) la_nil)) la_nil))))
  (lss_cons (ls_set (ps_set (i := 2) sc.nd rfl (by first | exact Or.inl rfl | exact Or.inr rfl) (le_mod (le_int rfl h.f_int (la_cons (le_add (le_add (le_mul (le_var (pv 2)) le_i) (le_mul (le_mod (le_var (pv 4)) le_i) le_i)) (le_mul le_i (le_var (pv 3)))) la_nil)) le_i)))
  (lss_one (ls_if (lt_cmp or_ge od_lt (le_var (pv 4)) (le_pow le_i le_i))
  (lss_one (ls_expr (le_append (le_var (pv 1)) (la_cons (le_mod (le_var (pv 4)) (le_mul (le_mul (le_mul (le_mul (le_pow le_i le_i) (le_pow le_i le_i)) (le_pow le_i le_i)) (le_pow le_i le_i)) (le_pow le_i le_i))) la_nil) ⟨rfl, rfl, rfl, rfl, rfl⟩)))
  lss_nil)))))
  (lss_one (ls_ret (le_lst (la_cons (le_var (pv 1)) (la_cons (le_M (le_add (le_var (pv 2)) le_i)) la_nil))))))))
abbrev s__law_scoop : Stmt := top 22
def D__law_scoop : He.DefD := ⟨("_law_scoop", none), "_law_scoop", "_law_scoop", defArgs s__law_scoop, defBody s__law_scoop, defScope s__law_scoop, [], []⟩
theorem o__law_scoop {P : Program} {w : World} {K : PySem.W.Frag} {mg : Str → Option Value} {base : Heap} {f : Addr} {fd : FuncData} (h : Fx K w mg) (F : FnP K "_law_scoop" s__law_scoop f fd) (hm : mg "_law_scoop" = some (.ref f)) : OwnAt P w K mg base 1 "_law_scoop" ["bowl", "many"] F__law_scoop f fd := by
  have sc : FnScope ["bowl", "many", "cell"] ["bowl", "many"] (defScope s__law_scoop) := ⟨rfl, rfl, rfl, by decide +kernel, rfl, by decide +kernel, by decide +kernel⟩
  refine own_of (d := D__law_scoop) (N := ["bowl", "many", "cell"]) (ds := b__law_scoop) F hm sc (fun _ _ _ _ _ _ us hl => match us, hl with | [_, _], _ => rfl) fun cdv A outer s H E hr => ?_
  unfold b__law_scoop L__law_scoop_0
  exact (lss_cons (ls_while (passes_of rfl) (lt_w (lw_and (lt_cmp or_gt od_lt (le_len rfl h.f_len (la_cons (le_ix (hu65 hr) (le_var (pv 0)) le_i) la_nil)) le_i) (lw_and1 (lt_cmp (or_eq (hu65 hr)) od_eq (le_ix (hu65 hr) (le_ix (hu65 hr) (le_var (pv 0)) le_i) le_i) le_i))))
  (lss_one (ls_expr (le_popAt (le_ix (hu65 hr) (le_var (pv 0)) le_i) (la_cons le_i la_nil) ⟨rfl, rfl, rfl, rfl, rfl⟩))))
  (lss_cons (ls_if (lt_cmp or_gt od_lt (le_len rfl h.f_len (la_cons (le_ix (hu65 hr) (le_var (pv 0)) le_i) la_nil)) le_i)
  (lss_cons (ls_set (ps_set (i := 2) sc.nd rfl (by first | exact Or.inl rfl | exact Or.inr rfl) (le_int rfl h.f_int (la_cons (le_ix (hu65 hr) (le_ix (hu65 hr) (le_var (pv 0)) le_i) le_i) la_nil))))
  (lss_cons (ls_asg (le_fdiv (le_var (pv 2)) (le_var (pv 1))) (lg_sub (W := W0) (hu65 hr) (le_ix (hu65 hr) (le_var (pv 0)) le_i) le_i))
  (lss_one (ls_ret (le_mod (le_var (pv 2)) (le_var (pv 1)))))))
  lss_nil)
  (lss_cons (ls_asg (le_mod (le_int rfl h.f_int (la_cons (le_add (le_mul (le_ix (hu65 hr) (le_var (pv 0)) le_i) le_i) le_i) la_nil)) le_i) (lg_sub (W := W0) (hu65 hr) (le_var (pv 0)) le_i))
  (lss_one (ls_ret (le_mod (le_int rfl h.f_int (la_cons (le_fdiv (le_ix (hu65 hr) (le_var (pv 0)) le_i) le_i) la_nil)) (le_var (pv 1))))))))
abbrev s__law_board : Stmt := top 23
def D__law_board : He.DefD := ⟨("_law_board", none), "_law_board", "_law_board", defArgs s__law_board, defBody s__law_board, defScope s__law_board, [], []⟩
theorem o__law_board {P : Program} {w : World} {K : PySem.W.Frag} {mg : Str → Option Value} {base : Heap} {f : Addr} {fd : FuncData} (h : Fx K w mg) (F : FnP K "_law_board" s__law_board f fd) (hm : mg "_law_board" = some (.ref f)) (o__law_scoop : Own P w K mg base 1 "_law_scoop" ["bowl", "many"] F__law_scoop) : OwnAt P w K mg base 2 "_law_board" ["bowl", "rows", "columns"] F__law_board_v8 f fd := by
  have sc : FnScope ["bowl", "rows", "columns", "kinds", "habit", "most", "board", "row", "line", "column", "at"] ["bowl", "rows", "columns"] (defScope s__law_board) := ⟨rfl, rfl, rfl, by decide +kernel, rfl, by decide +kernel, by decide +kernel⟩
  refine own_of (d := D__law_board) (N := ["bowl", "rows", "columns", "kinds", "habit", "most", "board", "row", "line", "column", "at"]) (ds := b__law_board_v8) F hm sc (fun _ _ _ _ _ _ us hl => match us, hl with | [_, _, _], _ => rfl) fun cdv A outer s H E hr => ?_
  unfold b__law_board_v8 C__law_board_v8_2 L__law_board_v8_1 L__law_board_v8_0
  exact (lss_cons (ls_set (ps_set (i := 3) sc.nd rfl (by first | exact Or.inl rfl | exact Or.inr rfl) (le_lst (la_cons le_s (la_cons le_s (la_cons le_s (la_cons le_s (la_cons le_s (la_cons le_s (la_cons le_s (la_cons le_s la_nil)))))))))))
  (lss_cons (ls_set (ps_set (i := 4) sc.nd rfl (by first | exact Or.inl rfl | exact Or.inr rfl) (le_call o__law_scoop (hr.mono (by decide)) rfl (L2N.takes_of rfl rfl rfl rfl) (la_cons (le_var (pv 0)) (la_cons le_i la_nil)))))
  (lss_cons (ls_set (ps_set (i := 5) sc.nd rfl (by first | exact Or.inl rfl | exact Or.inr rfl) (le_call o__law_scoop (hr.mono (by decide)) rfl (L2N.takes_of rfl rfl rfl rfl) (la_cons (le_var (pv 0)) (la_cons le_i la_nil)))))
  (lss_cons (ls_setM (ps_set (i := 6) sc.nd rfl (by first | exact Or.inl rfl | exact Or.inr rfl) (le_lst la_nil)))
  (lss_cons (ls_for (passes_of rfl) rfl (li_rng1 rfl h.f_range (la_cons (le_var (pv 1)) la_nil)) (lg_name (pg_name (i := 7) sc.nd rfl (by first | exact Or.inl rfl | exact Or.inr rfl)))
  (lss_cons (ls_setM (ps_set (i := 8) sc.nd rfl (by first | exact Or.inl rfl | exact Or.inr rfl) (le_lst la_nil)))
  (lss_cons (ls_for (passes_of rfl) rfl (li_rng1 rfl h.f_range (la_cons (le_var (pv 2)) la_nil)) (lg_name (pg_name (i := 9) sc.nd rfl (by first | exact Or.inl rfl | exact Or.inr rfl)))
  (lss_cons (ls_set (ps_set (i := 10) sc.nd rfl (by first | exact Or.inl rfl | exact Or.inr rfl) (le_call o__law_scoop (hr.mono (by decide)) rfl (L2N.takes_of rfl rfl rfl rfl) (la_cons (le_var (pv 0)) (la_cons le_i la_nil)))))
  (lss_cons (ls_if (lt_w (lw_and (lt_cmp (or_eq (hu65 hr)) od_eq (le_var (pv 4)) le_i) (lw_and1 (lt_cmp (or_eq (hu65 hr)) od_eq (le_var (pv 10)) le_i))))
  (lss_one (ls_set (ps_set (i := 10) sc.nd rfl (by first | exact Or.inl rfl | exact Or.inr rfl) (le_call o__law_scoop (hr.mono (by decide)) rfl (L2N.takes_of rfl rfl rfl rfl) (la_cons (le_var (pv 0)) (la_cons le_i la_nil))))))
  lss_nil)
  (lss_cons (ls_if (lt_w (lw_and (lt_cmp (or_eq (hu65 hr)) od_eq (le_var (pv 4)) le_i) (lw_and1 (lt_cmp or_gt od_lt (le_call o__law_scoop (hr.mono (by decide)) rfl (L2N.takes_of rfl rfl rfl rfl) (la_cons (le_var (pv 0)) (la_cons le_i la_nil))) le_i))))
  (lss_one (ls_set (ps_set (i := 10) sc.nd rfl (by first | exact Or.inl rfl | exact Or.inr rfl) (le_var (pv 5)))))
  lss_nil)
  (lss_cons (ls_if (lt_cmp (or_eq (hu65 hr)) od_eq (le_var (pv 4)) le_i)
  (lss_one (ls_set (ps_set (i := 10) sc.nd rfl (by first | exact Or.inl rfl | exact Or.inr rfl) (le_ix (hu65 hr) (le_tup (la_cons le_i (la_cons le_i (la_cons le_i la_nil)))) (le_call o__law_scoop (hr.mono (by decide)) rfl (L2N.takes_of rfl rfl rfl rfl) (la_cons (le_var (pv 0)) (la_cons le_i la_nil)))))))
  lss_nil)
  (lss_cons (ls_if (lt_cmp (or_eq (hu65 hr)) od_eq (le_var (pv 4)) le_i)
  (lss_one (ls_set (ps_set (i := 10) sc.nd rfl (by first | exact Or.inl rfl | exact Or.inr rfl) (le_mul le_i (le_int rfl h.f_int (la_cons (le_cmp or_gt od_lt (le_call o__law_scoop (hr.mono (by decide)) rfl (L2N.takes_of rfl rfl rfl rfl) (la_cons (le_var (pv 0)) (la_cons le_i la_nil))) le_i) la_nil))))))
  lss_nil)
  (lss_cons (ls_if (lt_w (lw_and (lt_cmp (or_eq (hu65 hr)) od_eq (le_var (pv 4)) le_i) (lw_and1 (lt_cmp (or_eq (hu65 hr)) od_eq (le_call o__law_scoop (hr.mono (by decide)) rfl (L2N.takes_of rfl rfl rfl rfl) (la_cons (le_var (pv 0)) (la_cons le_i la_nil))) le_i))))
  (lss_one (ls_set (ps_set (i := 10) sc.nd rfl (by first | exact Or.inl rfl | exact Or.inr rfl) le_i)))
  lss_nil)
  (lss_one (ls_expr (le_append (le_var (pv 8)) (la_cons (le_ix (hu65 hr) (le_var (pv 3)) (le_var (pv 10))) la_nil) ⟨rfl, rfl, rfl, rfl, rfl⟩))))))))))
  (lss_one (ls_expr (le_append (le_var (pv 6)) (la_cons (le_tuple rfl rfl h.f_tuple (la_cons (le_var (pv 8)) la_nil)) la_nil) ⟨rfl, rfl, rfl, rfl, rfl⟩))))))
  (lss_cons (ls_if (lt_cmp (or_eq (hu65 hr)) od_eq (le_join le_s (la_cons (le_lc rfl sc.nd (li_seq (le_var (pv 6))) (own := [("line", 8)]) (blk_of (by kernel_rfl)) (fun _ _ _ _ _ => (lc_name (pg_name (i := 8) sc.nd rfl (by first | exact Or.inl rfl | exact Or.inr rfl)))) (fun _ _ _ _ _ => lts_nil) (fun _ _ _ _ _ => (le_join le_s (la_cons (le_var (pv 8)) la_nil) ⟨rfl, rfl, rfl, rfl, rfl⟩))) la_nil) ⟨rfl, rfl, rfl, rfl, rfl⟩) le_s)
  (lss_one (ls_asg (le_add (le_tup (la_cons (le_ix (hu65 hr) (le_var (pv 3)) (le_add le_i (le_call o__law_scoop (hr.mono (by decide)) rfl (L2N.takes_of rfl rfl rfl rfl) (la_cons (le_var (pv 0)) (la_cons le_i la_nil))))) la_nil)) (le_sl (le_ix (hu65 hr) (le_var (pv 6)) le_i) (lo_some le_i) lo_none)) (lg_sub (W := W0) (hu65 hr) (le_var (pv 6)) le_i)))
  lss_nil)
  (lss_one (ls_ret (le_tuple rfl rfl h.f_tuple (la_cons (le_var (pv 6)) la_nil))))))))))
abbrev s__law_same : Stmt := top 24
def D__law_same : He.DefD := ⟨("_law_same", none), "_law_same", "_law_same", defArgs s__law_same, defBody s__law_same, defScope s__law_same, [], []⟩
theorem o__law_same {P : Program} {w : World} {K : PySem.W.Frag} {mg : Str → Option Value} {base : Heap} {f : Addr} {fd : FuncData} (h : Fx K w mg) (F : FnP K "_law_same" s__law_same f fd) (hm : mg "_law_same" = some (.ref f)) : OwnAt P w K mg base 1 "_law_same" ["told", "due"] F__law_same_v3 f fd := by
  have sc : FnScope ["told", "due", "rest", "left", "right", "at"] ["told", "due"] (defScope s__law_same) := ⟨rfl, rfl, rfl, by decide +kernel, rfl, by decide +kernel, by decide +kernel⟩
  refine own_of (d := D__law_same) (N := ["told", "due", "rest", "left", "right", "at"]) (ds := b__law_same_v3) F hm sc (fun _ _ _ _ _ _ us hl => match us, hl with | [_, _], _ => rfl) fun cdv A outer s H E hr => ?_
  unfold b__law_same_v3 L__law_same_v3_2 C__law_same_v3_1 C__law_same_v3_0
  exact (lss_cons (ls_setM (ps_set (i := 2) sc.nd rfl (by first | exact Or.inl rfl | exact Or.inr rfl) (le_lst (la_cons (le_tup (la_cons (le_var (pv 0)) (la_cons (le_var (pv 1)) la_nil))) la_nil))))
  (lss_cons (ls_while (passes_of rfl) (lt_cmp or_gt od_lt (le_len rfl h.f_len (la_cons (le_var (pv 2)) la_nil)) le_i)
  (lss_cons (ls_asg (le_pop (le_var (pv 2)) ⟨rfl, rfl⟩) (lg_tup rfl (lgs_cons (lg_name (pg_name (i := 3) sc.nd rfl (by first | exact Or.inl rfl | exact Or.inr rfl))) (lgs_cons (lg_name (pg_name (i := 4) sc.nd rfl (by first | exact Or.inl rfl | exact Or.inr rfl))) lgs_nil))))
  (lss_one (ls_if (lt_tru (le_isi (T := "tuple") (by decide) rfl h.f_isinstance rfl h.f_tuple (by decide +kernel) (le_var (pv 4))))
  (lss_cons (ls_if (lt_w (lw_or (lt_not (lt_tru (le_isi (T := "tuple") (by decide) rfl h.f_isinstance rfl h.f_tuple (by decide +kernel) (le_var (pv 3))))) (lw_or1 (lt_cmp (or_ne (hu65 hr)) od_ne (le_len rfl h.f_len (la_cons (le_var (pv 3)) la_nil)) (le_len rfl h.f_len (la_cons (le_var (pv 4)) la_nil))))))
  (lss_one (ls_ret le_b))
  lss_nil)
  (lss_one (ls_setM (ps_set (i := 2) sc.nd rfl (by first | exact Or.inl rfl | exact Or.inr rfl) (le_add (le_var (pv 2)) (le_lc rfl sc.nd (li_rng1 rfl h.f_range (la_cons (le_len rfl h.f_len (la_cons (le_var (pv 4)) la_nil)) la_nil)) (own := [("at", 5)]) (blk_of (by kernel_rfl)) (fun _ _ _ _ _ => (lc_name (pg_name (i := 5) sc.nd rfl (by first | exact Or.inl rfl | exact Or.inr rfl)))) (fun _ _ _ _ _ => lts_nil) (fun _ _ _ _ _ => (le_tup (la_cons (le_ix (hu65 hr) (le_var (pv 3)) (le_var (pv 5))) (la_cons (le_ix (hu65 hr) (le_var (pv 4)) (le_var (pv 5))) la_nil))))))))))
  (lss_one (ls_if (lt_tru (le_isi (T := "list") (by decide) rfl h.f_isinstance rfl h.f_list (by decide +kernel) (le_var (pv 4))))
  (lss_cons (ls_if (lt_w (lw_or (lt_not (lt_tru (le_isi (T := "list") (by decide) rfl h.f_isinstance rfl h.f_list (by decide +kernel) (le_var (pv 3))))) (lw_or1 (lt_cmp (or_ne (hu65 hr)) od_ne (le_len rfl h.f_len (la_cons (le_var (pv 3)) la_nil)) (le_len rfl h.f_len (la_cons (le_var (pv 4)) la_nil))))))
  (lss_one (ls_ret le_b))
  lss_nil)
  (lss_one (ls_setM (ps_set (i := 2) sc.nd rfl (by first | exact Or.inl rfl | exact Or.inr rfl) (le_add (le_var (pv 2)) (le_lc rfl sc.nd (li_rng1 rfl h.f_range (la_cons (le_len rfl h.f_len (la_cons (le_var (pv 4)) la_nil)) la_nil)) (own := [("at", 5)]) (blk_of (by kernel_rfl)) (fun _ _ _ _ _ => (lc_name (pg_name (i := 5) sc.nd rfl (by first | exact Or.inl rfl | exact Or.inr rfl)))) (fun _ _ _ _ _ => lts_nil) (fun _ _ _ _ _ => (le_tup (la_cons (le_ix (hu65 hr) (le_var (pv 3)) (le_var (pv 5))) (la_cons (le_ix (hu65 hr) (le_var (pv 4)) (le_var (pv 5))) la_nil))))))))))
  (lss_one (ls_if (lt_cmp or_is od_is (le_var (pv 4)) le_n)
  (lss_one (ls_if (lt_cmp or_isnot od_is (le_var (pv 3)) le_n)
  (lss_one (ls_ret le_b))
  lss_nil))
  (lss_one (ls_if (lt_tru (le_isi (T := "bool") (by decide) rfl h.f_isinstance rfl h.f_bool (by decide +kernel) (le_var (pv 4))))
  (lss_one (ls_if (lt_w (lw_or (lt_not (lt_tru (le_isi (T := "bool") (by decide) rfl h.f_isinstance rfl h.f_bool (by decide +kernel) (le_var (pv 3))))) (lw_or1 (lt_cmp (or_ne (hu65 hr)) od_ne (le_var (pv 3)) (le_var (pv 4))))))
  (lss_one (ls_ret le_b))
  lss_nil))
  (lss_one (ls_if (lt_tru (le_isi (T := "int") (by decide) rfl h.f_isinstance rfl h.f_int (by decide +kernel) (le_var (pv 4))))
  (lss_one (ls_if (lt_w (lw_or (lt_not (lt_tru (le_isi (T := "int") (by decide) rfl h.f_isinstance rfl h.f_int (by decide +kernel) (le_var (pv 3))))) (lw_or (lt_tru (le_isi (T := "bool") (by decide) rfl h.f_isinstance rfl h.f_bool (by decide +kernel) (le_var (pv 3)))) (lw_or1 (lt_cmp (or_ne (hu65 hr)) od_ne (le_var (pv 3)) (le_var (pv 4)))))))
  (lss_one (ls_ret le_b))
  lss_nil))
  (lss_one (ls_if (lt_w (lw_or (lt_not (lt_tru (le_isi (T := "str") (by decide) rfl h.f_isinstance rfl h.f_str (by decide +kernel) (le_var (pv 4))))) (lw_or (lt_not (lt_tru (le_isi (T := "str") (by decide) rfl h.f_isinstance rfl h.f_str (by decide +kernel) (le_var (pv 3))))) (lw_or1 (lt_cmp (or_ne (hu65 hr)) od_ne (le_var (pv 3)) (le_var (pv 4)))))))
  (lss_one (ls_ret le_b))
  lss_nil))))))))))))))
  (lss_one (ls_ret le_b))))
abbrev s__law_exchanged : Stmt := top 25
def D__law_exchanged : He.DefD := ⟨("_law_exchanged", none), "_law_exchanged", "_law_exchanged", defArgs s__law_exchanged, defBody s__law_exchanged, defScope s__law_exchanged, [], []⟩
theorem o__law_exchanged {P : Program} {w : World} {K : PySem.W.Frag} {mg : Str → Option Value} {base : Heap} {f : Addr} {fd : FuncData} (h : Fx K w mg) (F : FnP K "_law_exchanged" s__law_exchanged f fd) (hm : mg "_law_exchanged" = some (.ref f)) : OwnAt P w K mg base 1 "_law_exchanged" ["kind"] F__law_exchanged_v1 f fd := by
  have sc : FnScope ["kind", "letters", "letter", "other"] ["kind"] (defScope s__law_exchanged) := ⟨rfl, rfl, rfl, by decide +kernel, rfl, by decide +kernel, by decide +kernel⟩
  refine own_of (d := D__law_exchanged) (N := ["kind", "letters", "letter", "other"]) (ds := b__law_exchanged_v1) F hm sc (fun _ _ _ _ _ _ us hl => match us, hl with | [_], _ => rfl) fun cdv A outer s H E hr => ?_
  unfold b__law_exchanged_v1 L__law_exchanged_v1_0
  exact (lss_cons (ls_set (ps_set (i := 1) sc.nd rfl (by first | exact Or.inl rfl | exact Or.inr rfl) le_s))
  (lss_cons (ls_for (passes_of rfl) rfl (li_seq (le_tup (la_cons (le_tup (la_cons le_s (la_cons le_s la_nil))) (la_cons (le_tup (la_cons le_s (la_cons le_s la_nil))) (la_cons (le_tup (la_cons le_s (la_cons le_s la_nil))) la_nil))))) (lg_tup rfl (lgs_cons (lg_name (pg_name (i := 2) sc.nd rfl (by first | exact Or.inl rfl | exact Or.inr rfl))) (lgs_cons (lg_name (pg_name (i := 3) sc.nd rfl (by first | exact Or.inl rfl | exact Or.inr rfl))) lgs_nil)))
  (lss_one (ls_if (lt_cmp (or_in (hu65 hr)) od_in (le_var (pv 3)) (le_var (pv 0)))
  (lss_one (ls_set (ps_set (i := 1) sc.nd rfl (by first | exact Or.inl rfl | exact Or.inr rfl) (le_add (le_var (pv 1)) (le_var (pv 2))))))
  lss_nil)))
  (lss_one (ls_ret (le_var (pv 1))))))
abbrev s__law_mirrored : Stmt := top 27
def D__law_mirrored : He.DefD := ⟨("_law_mirrored", none), "_law_mirrored", "_law_mirrored", defArgs s__law_mirrored, defBody s__law_mirrored, defScope s__law_mirrored, [], []⟩
theorem o__law_mirrored {P : Program} {w : World} {K : PySem.W.Frag} {mg : Str → Option Value} {base : Heap} {f : Addr} {fd : FuncData} (h : Fx K w mg) (F : FnP K "_law_mirrored" s__law_mirrored f fd) (hm : mg "_law_mirrored" = some (.ref f)) (o__law_exchanged : Own P w K mg base 1 "_law_exchanged" ["kind"] F__law_exchanged_v1) : OwnAt P w K mg base 2 "_law_mirrored" ["board"] F__law_mirrored_v1 f fd := by
  have sc : FnScope ["board", "line", "kind"] ["board"] (defScope s__law_mirrored) := ⟨rfl, rfl, rfl, by decide +kernel, rfl, by decide +kernel, by decide +kernel⟩
  refine own_of (d := D__law_mirrored) (N := ["board", "line", "kind"]) (ds := b__law_mirrored_v1) F hm sc (fun _ _ _ _ _ _ us hl => match us, hl with | [_], _ => rfl) fun cdv A outer s H E hr => ?_
  unfold b__law_mirrored_v1 C__law_mirrored_v1_1 C__law_mirrored_v1_0
  exact (lss_one (ls_ret (le_tuple rfl rfl h.f_tuple (la_cons (le_lc rfl sc.nd (li_seq (le_var (pv 0))) (own := [("line", 1)]) (blk_of (by kernel_rfl)) (fun _ _ _ _ _ => (lc_name (pg_name (i := 1) sc.nd rfl (by first | exact Or.inl rfl | exact Or.inr rfl)))) (fun _ _ _ _ _ => lts_nil) (fun _ _ _ _ _ => (le_tuple rfl rfl h.f_tuple (la_cons (le_lc rfl sc.nd (li_seq (le_rev (le_var (pv 1)))) (own := [("kind", 2)]) (blk_of (by kernel_rfl)) (fun _ _ _ _ _ => (lc_name (pg_name (i := 2) sc.nd rfl (by first | exact Or.inl rfl | exact Or.inr rfl)))) (fun _ _ _ _ _ => lts_nil) (fun _ _ _ _ _ => (le_call o__law_exchanged (hr.mono (by decide)) rfl takes0N (la_cons (le_var (pv 2)) la_nil)))) la_nil)))) la_nil))))
abbrev s__law_turned : Stmt := top 26
def D__law_turned : He.DefD := ⟨("_law_turned", none), "_law_turned", "_law_turned", defArgs s__law_turned, defBody s__law_turned, defScope s__law_turned, [], []⟩
theorem o__law_turned {P : Program} {w : World} {K : PySem.W.Frag} {mg : Str → Option Value} {base : Heap} {f : Addr} {fd : FuncData} (h : Fx K w mg) (F : FnP K "_law_turned" s__law_turned f fd) (hm : mg "_law_turned" = some (.ref f)) (o__law_exchanged : Own P w K mg base 1 "_law_exchanged" ["kind"] F__law_exchanged_v1) : OwnAt P w K mg base 2 "_law_turned" ["board"] F__law_turned_v1 f fd := by
  have sc : FnScope ["board", "rows", "new", "column", "row"] ["board"] (defScope s__law_turned) := ⟨rfl, rfl, rfl, by decide +kernel, rfl, by decide +kernel, by decide +kernel⟩
  refine own_of (d := D__law_turned) (N := ["board", "rows", "new", "column", "row"]) (ds := b__law_turned_v1) F hm sc (fun _ _ _ _ _ _ us hl => match us, hl with | [_], _ => rfl) fun cdv A outer s H E hr => ?_
  unfold b__law_turned_v1 L__law_turned_v1_1 C__law_turned_v1_0
  exact (lss_cons (ls_set (ps_set (i := 1) sc.nd rfl (by first | exact Or.inl rfl | exact Or.inr rfl) (le_len rfl h.f_len (la_cons (le_var (pv 0)) la_nil))))
  (lss_cons (ls_setM (ps_set (i := 2) sc.nd rfl (by first | exact Or.inl rfl | exact Or.inr rfl) (le_lst la_nil)))
  (lss_cons (ls_for (passes_of rfl) rfl (li_rng1 rfl h.f_range (la_cons (le_len rfl h.f_len (la_cons (le_ix (hu65 hr) (le_var (pv 0)) le_i) la_nil)) la_nil)) (lg_name (pg_name (i := 3) sc.nd rfl (by first | exact Or.inl rfl | exact Or.inr rfl)))
  (lss_one (ls_expr (le_append (le_var (pv 2)) (la_cons (le_tuple rfl rfl h.f_tuple (la_cons (le_lc rfl sc.nd (li_rng1 rfl h.f_range (la_cons (le_var (pv 1)) la_nil)) (own := [("row", 4)]) (blk_of (by kernel_rfl)) (fun _ _ _ _ _ => (lc_name (pg_name (i := 4) sc.nd rfl (by first | exact Or.inl rfl | exact Or.inr rfl)))) (fun _ _ _ _ _ => lts_nil) (fun _ _ _ _ _ => (le_call o__law_exchanged (hr.mono (by decide)) rfl takes0N (la_cons (le_ix (hu65 hr) (le_ix (hu65 hr) (le_var (pv 0)) (le_sub (le_sub (le_var (pv 1)) le_i) (le_var (pv 4)))) (le_var (pv 3))) la_nil)))) la_nil)) la_nil) ⟨rfl, rfl, rfl, rfl, rfl⟩))))
  (lss_one (ls_ret (le_tuple rfl rfl h.f_tuple (la_cons (le_var (pv 2)) la_nil)))))))
abbrev s__law_eight : Stmt := top 28
def D__law_eight : He.DefD := ⟨("_law_eight", none), "_law_eight", "_law_eight", defArgs s__law_eight, defBody s__law_eight, defScope s__law_eight, [], []⟩
theorem o__law_eight {P : Program} {w : World} {K : PySem.W.Frag} {mg : Str → Option Value} {base : Heap} {f : Addr} {fd : FuncData} (h : Fx K w mg) (F : FnP K "_law_eight" s__law_eight f fd) (hm : mg "_law_eight" = some (.ref f)) (o__law_mirrored : Own P w K mg base 2 "_law_mirrored" ["board"] F__law_mirrored_v1) (o__law_turned : Own P w K mg base 2 "_law_turned" ["board"] F__law_turned_v1) : OwnAt P w K mg base 3 "_law_eight" ["board"] F__law_eight f fd := by
  have sc : FnScope ["board", "found", "start", "here", "quarters"] ["board"] (defScope s__law_eight) := ⟨rfl, rfl, rfl, by decide +kernel, rfl, by decide +kernel, by decide +kernel⟩
  refine own_of (d := D__law_eight) (N := ["board", "found", "start", "here", "quarters"]) (ds := b__law_eight) F hm sc (fun _ _ _ _ _ _ us hl => match us, hl with | [_], _ => rfl) fun cdv A outer s H E hr => ?_
  unfold b__law_eight L__law_eight_1 L__law_eight_0
  exact (lss_cons (ls_setM (ps_set (i := 1) sc.nd rfl (by first | exact Or.inl rfl | exact Or.inr rfl) (le_lst la_nil)))
  (lss_cons (ls_for (passes_of rfl) rfl (li_seq (le_tup (la_cons (le_var (pv 0)) (la_cons (le_call o__law_mirrored (hr.mono (by decide)) rfl (L2N.takes_of rfl rfl rfl rfl) (la_cons (le_var (pv 0)) la_nil)) la_nil)))) (lg_name (pg_name (i := 2) sc.nd rfl (by first | exact Or.inl rfl | exact Or.inr rfl)))
  (lss_cons (ls_set (ps_set (i := 3) sc.nd rfl (by first | exact Or.inl rfl | exact Or.inr rfl) (le_var (pv 2))))
  (lss_one (ls_for (passes_of rfl) rfl (li_rng1 rfl h.f_range (la_cons le_i la_nil)) (lg_name (pg_name (i := 4) sc.nd rfl (by first | exact Or.inl rfl | exact Or.inr rfl)))
  (lss_cons (ls_expr (le_append (le_var (pv 1)) (la_cons (le_var (pv 3)) la_nil) ⟨rfl, rfl, rfl, rfl, rfl⟩))
  (lss_one (ls_set (ps_set (i := 3) sc.nd rfl (by first | exact Or.inl rfl | exact Or.inr rfl) (le_call o__law_turned (hr.mono (by decide)) rfl (L2N.takes_of rfl rfl rfl rfl) (la_cons (le_var (pv 3)) la_nil))))))))))
  (lss_one (ls_ret (le_var (pv 1))))))
abbrev s_kind_of_letters : Stmt := top 2
def D_kind_of_letters : He.DefD := ⟨("kind_of_letters", none), "kind_of_letters", "kind_of_letters", defArgs s_kind_of_letters, defBody s_kind_of_letters, defScope s_kind_of_letters, [], []⟩
theorem o_kind_of_letters {P : Program} {w : World} {K : PySem.W.Frag} {mg : Str → Option Value} {base : Heap} {f : Addr} {fd : FuncData} (h : Fx K w mg) (F : FnP K "kind_of_letters" s_kind_of_letters f fd) (hm : mg "kind_of_letters" = some (.ref f)) : OwnAt P w K mg base 1 "kind_of_letters" ["letters"] F_kind_of_letters f fd := by
  have sc : FnScope ["letters", "letter"] ["letters"] (defScope s_kind_of_letters) := ⟨rfl, rfl, rfl, by decide +kernel, rfl, by decide +kernel, by decide +kernel⟩
  refine own_of (d := D_kind_of_letters) (N := ["letters", "letter"]) (ds := b_kind_of_letters) F hm sc (fun _ _ _ _ _ _ us hl => match us, hl with | [_], _ => rfl) fun cdv A outer s H E hr => ?_
  unfold b_kind_of_letters C_kind_of_letters_0
  exact (lss_one (ls_ret (le_join le_s (la_cons (le_lc rfl sc.nd (li_seq (le_g rfl h.g_LETTERS)) (own := [("letter", 1)]) (blk_of (by kernel_rfl)) (fun _ _ _ _ _ => (lc_name (pg_name (i := 1) sc.nd rfl (by first | exact Or.inl rfl | exact Or.inr rfl)))) (fun _ _ _ _ _ => (lts_one (lt_cmp (or_in (hu65 hr)) od_in (le_var (pv 1)) (le_var (pv 0))))) (fun _ _ _ _ _ => (le_var (pv 1)))) la_nil) ⟨rfl, rfl, rfl, rfl, rfl⟩)))
abbrev s_exchanged_kind : Stmt := top 5
def D_exchanged_kind : He.DefD := ⟨("exchanged_kind", none), "exchanged_kind", "exchanged_kind", defArgs s_exchanged_kind, defBody s_exchanged_kind, defScope s_exchanged_kind, [], []⟩
theorem o_exchanged_kind {P : Program} {w : World} {K : PySem.W.Frag} {mg : Str → Option Value} {base : Heap} {f : Addr} {fd : FuncData} (h : Fx K w mg) (F : FnP K "exchanged_kind" s_exchanged_kind f fd) (hm : mg "exchanged_kind" = some (.ref f)) (o_kind_of_letters : Own P w K mg base 1 "kind_of_letters" ["letters"] F_kind_of_letters) : OwnAt P w K mg base 2 "exchanged_kind" ["kind"] F_exchanged_kind f fd := by
  have sc : FnScope ["kind", "letter"] ["kind"] (defScope s_exchanged_kind) := ⟨rfl, rfl, rfl, by decide +kernel, rfl, by decide +kernel, by decide +kernel⟩
  refine own_of (d := D_exchanged_kind) (N := ["kind", "letter"]) (ds := b_exchanged_kind) F hm sc (fun _ _ _ _ _ _ us hl => match us, hl with | [_], _ => rfl) fun cdv A outer s H E hr => ?_
  unfold b_exchanged_kind C_exchanged_kind_0
  exact (lss_one (ls_ret (le_call o_kind_of_letters (hr.mono (by decide)) rfl (L2N.takes_of rfl rfl rfl rfl) (la_cons (le_lc rfl sc.nd (li_seq (le_var (pv 0))) (own := [("letter", 1)]) (blk_of (by kernel_rfl)) (fun _ _ _ _ _ => (lc_name (pg_name (i := 1) sc.nd rfl (by first | exact Or.inl rfl | exact Or.inr rfl)))) (fun _ _ _ _ _ => lts_nil) (fun _ _ _ _ _ => (le_ix (hu65 hr) (le_g rfl h.g_EXCHANGED) (le_var (pv 1))))) la_nil))))
abbrev s_as_board : Stmt := top 9
def D_as_board : He.DefD := ⟨("as_board", none), "as_board", "as_board", defArgs s_as_board, defBody s_as_board, defScope s_as_board, [], []⟩
theorem o_as_board {P : Program} {w : World} {K : PySem.W.Frag} {mg : Str → Option Value} {base : Heap} {f : Addr} {fd : FuncData} (h : Fx K w mg) (F : FnP K "as_board" s_as_board f fd) (hm : mg "as_board" = some (.ref f)) (o_exchanged_kind : Own P w K mg base 2 "exchanged_kind" ["kind"] F_exchanged_kind) : OwnAt P w K mg base 3 "as_board" ["rows"] F_as_board f fd := by
  have sc : FnScope ["rows", "row", "kind"] ["rows"] (defScope s_as_board) := ⟨rfl, rfl, rfl, by decide +kernel, rfl, by decide +kernel, by decide +kernel⟩
  refine own_of (d := D_as_board) (N := ["rows", "row", "kind"]) (ds := b_as_board) F hm sc (fun _ _ _ _ _ _ us hl => match us, hl with | [_], _ => rfl) fun cdv A outer s H E hr => ?_
  unfold b_as_board C_as_board_1 C_as_board_0
  exact (lss_one (ls_ret (le_tuple rfl rfl h.f_tuple (la_cons (le_lc rfl sc.nd (li_seq (le_var (pv 0))) (own := [("row", 1)]) (blk_of (by kernel_rfl)) (fun _ _ _ _ _ => (lc_name (pg_name (i := 1) sc.nd rfl (by first | exact Or.inl rfl | exact Or.inr rfl)))) (fun _ _ _ _ _ => lts_nil) (fun _ _ _ _ _ => (le_tuple rfl rfl h.f_tuple (la_cons (le_lc rfl sc.nd (li_seq (le_var (pv 1))) (own := [("kind", 2)]) (blk_of (by kernel_rfl)) (fun _ _ _ _ _ => (lc_name (pg_name (i := 2) sc.nd rfl (by first | exact Or.inl rfl | exact Or.inr rfl)))) (fun _ _ _ _ _ => lts_nil) (fun _ _ _ _ _ => (le_call o_exchanged_kind (hr.mono (by decide)) rfl takes0N (la_cons (le_var (pv 2)) la_nil)))) la_nil)))) la_nil))))
abbrev s_quarter_of : Stmt := top 6
def D_quarter_of : He.DefD := ⟨("quarter_of", none), "quarter_of", "quarter_of", defArgs s_quarter_of, defBody s_quarter_of, defScope s_quarter_of, [], []⟩
theorem o_quarter_of {P : Program} {w : World} {K : PySem.W.Frag} {mg : Str → Option Value} {base : Heap} {f : Addr} {fd : FuncData} (h : Fx K w mg) (F : FnP K "quarter_of" s_quarter_of f fd) (hm : mg "quarter_of" = some (.ref f)) : OwnAt P w K mg base 1 "quarter_of" ["rows"] F_quarter_of f fd := by
  have sc : FnScope ["rows", "columns", "column", "at"] ["rows"] (defScope s_quarter_of) := ⟨rfl, rfl, rfl, by decide +kernel, rfl, by decide +kernel, by decide +kernel⟩
  refine own_of (d := D_quarter_of) (N := ["rows", "columns", "column", "at"]) (ds := b_quarter_of) F hm sc (fun _ _ _ _ _ _ us hl => match us, hl with | [_], _ => rfl) fun cdv A outer s H E hr => ?_
  unfold b_quarter_of C_quarter_of_1 C_quarter_of_0
  exact (lss_cons (ls_set (ps_set (i := 1) sc.nd rfl (by first | exact Or.inl rfl | exact Or.inr rfl) (le_len rfl h.f_len (la_cons (le_ix (hu65 hr) (le_var (pv 0)) le_i) la_nil))))
  (lss_one (ls_ret (le_lc rfl sc.nd (li_rng1 rfl h.f_range (la_cons (le_var (pv 1)) la_nil)) (own := [("column", 2)]) (blk_of (by kernel_rfl)) (fun _ _ _ _ _ => (lc_name (pg_name (i := 2) sc.nd rfl (by first | exact Or.inl rfl | exact Or.inr rfl)))) (fun _ _ _ _ _ => lts_nil) (fun _ _ _ _ _ => (le_lc rfl sc.nd (li_rng1 rfl h.f_range (la_cons (le_len rfl h.f_len (la_cons (le_var (pv 0)) la_nil)) la_nil)) (own := [("at", 3)]) (blk_of (by kernel_rfl)) (fun _ _ _ _ _ => (lc_name (pg_name (i := 3) sc.nd rfl (by first | exact Or.inl rfl | exact Or.inr rfl)))) (fun _ _ _ _ _ => lts_nil) (fun _ _ _ _ _ => (le_ix (hu65 hr) (le_ix (hu65 hr) (le_var (pv 0)) (le_sub (le_sub (le_len rfl h.f_len (la_cons (le_var (pv 0)) la_nil)) le_i) (le_var (pv 3)))) (le_var (pv 2))))))))))
abbrev s_turned_board : Stmt := top 10
def D_turned_board : He.DefD := ⟨("turned_board", none), "turned_board", "turned_board", defArgs s_turned_board, defBody s_turned_board, defScope s_turned_board, [], []⟩
theorem o_turned_board {P : Program} {w : World} {K : PySem.W.Frag} {mg : Str → Option Value} {base : Heap} {f : Addr} {fd : FuncData} (h : Fx K w mg) (F : FnP K "turned_board" s_turned_board f fd) (hm : mg "turned_board" = some (.ref f)) (o_as_board : Own P w K mg base 3 "as_board" ["rows"] F_as_board) (o_quarter_of : Own P w K mg base 1 "quarter_of" ["rows"] F_quarter_of) : OwnAt P w K mg base 4 "turned_board" ["board", "quarters"] F_turned_board f fd := by
  have sc : FnScope ["board", "quarters", "_"] ["board", "quarters"] (defScope s_turned_board) := ⟨rfl, rfl, rfl, by decide +kernel, rfl, by decide +kernel, by decide +kernel⟩
  refine own_of (d := D_turned_board) (N := ["board", "quarters", "_"]) (ds := b_turned_board) F hm sc (fun _ _ _ _ _ _ us hl => match us, hl with | [_, _], _ => rfl) fun cdv A outer s H E hr => ?_
  unfold b_turned_board L_turned_board_0
  exact (lss_cons (ls_for (passes_of rfl) rfl (li_rng1 rfl h.f_range (la_cons (le_mod (le_var (pv 1)) le_i) la_nil)) (lg_name (pg_name (i := 2) sc.nd rfl (by first | exact Or.inl rfl | exact Or.inr rfl)))
  (lss_one (ls_set (ps_set (i := 0) sc.nd rfl (by first | exact Or.inl rfl | exact Or.inr rfl) (le_call o_as_board (hr.mono (by decide)) rfl (L2N.takes_of rfl rfl rfl rfl) (la_cons (le_call o_quarter_of (hr.mono (by decide)) rfl (L2N.takes_of rfl rfl rfl rfl) (la_cons (le_var (pv 0)) la_nil)) la_nil))))))
  (lss_one (ls_ret (le_var (pv 0)))))
abbrev s_mirror_of : Stmt := top 7
def D_mirror_of : He.DefD := ⟨("mirror_of", none), "mirror_of", "mirror_of", defArgs s_mirror_of, defBody s_mirror_of, defScope s_mirror_of, [], []⟩
theorem o_mirror_of {P : Program} {w : World} {K : PySem.W.Frag} {mg : Str → Option Value} {base : Heap} {f : Addr} {fd : FuncData} (h : Fx K w mg) (F : FnP K "mirror_of" s_mirror_of f fd) (hm : mg "mirror_of" = some (.ref f)) : OwnAt P w K mg base 1 "mirror_of" ["rows"] F_mirror_of f fd := by
  have sc : FnScope ["rows", "row", "at"] ["rows"] (defScope s_mirror_of) := ⟨rfl, rfl, rfl, by decide +kernel, rfl, by decide +kernel, by decide +kernel⟩
  refine own_of (d := D_mirror_of) (N := ["rows", "row", "at"]) (ds := b_mirror_of) F hm sc (fun _ _ _ _ _ _ us hl => match us, hl with | [_], _ => rfl) fun cdv A outer s H E hr => ?_
  unfold b_mirror_of C_mirror_of_1 C_mirror_of_0
  exact (lss_one (ls_ret (le_lc rfl sc.nd (li_seq (le_var (pv 0))) (own := [("row", 1)]) (blk_of (by kernel_rfl)) (fun _ _ _ _ _ => (lc_name (pg_name (i := 1) sc.nd rfl (by first | exact Or.inl rfl | exact Or.inr rfl)))) (fun _ _ _ _ _ => lts_nil) (fun _ _ _ _ _ => (le_lc rfl sc.nd (li_rng1 rfl h.f_range (la_cons (le_len rfl h.f_len (la_cons (le_var (pv 1)) la_nil)) la_nil)) (own := [("at", 2)]) (blk_of (by kernel_rfl)) (fun _ _ _ _ _ => (lc_name (pg_name (i := 2) sc.nd rfl (by first | exact Or.inl rfl | exact Or.inr rfl)))) (fun _ _ _ _ _ => lts_nil) (fun _ _ _ _ _ => (le_ix (hu65 hr) (le_var (pv 1)) (le_sub (le_sub (le_len rfl h.f_len (la_cons (le_var (pv 1)) la_nil)) le_i) (le_var (pv 2))))))))))
abbrev s_mirrored_board : Stmt := top 11
def D_mirrored_board : He.DefD := ⟨("mirrored_board", none), "mirrored_board", "mirrored_board", defArgs s_mirrored_board, defBody s_mirrored_board, defScope s_mirrored_board, [], []⟩
theorem o_mirrored_board {P : Program} {w : World} {K : PySem.W.Frag} {mg : Str → Option Value} {base : Heap} {f : Addr} {fd : FuncData} (h : Fx K w mg) (F : FnP K "mirrored_board" s_mirrored_board f fd) (hm : mg "mirrored_board" = some (.ref f)) (o_as_board : Own P w K mg base 3 "as_board" ["rows"] F_as_board) (o_mirror_of : Own P w K mg base 1 "mirror_of" ["rows"] F_mirror_of) : OwnAt P w K mg base 4 "mirrored_board" ["board"] F_mirrored_board f fd := by
  have sc : FnScope ["board"] ["board"] (defScope s_mirrored_board) := ⟨rfl, rfl, rfl, by decide +kernel, rfl, by decide +kernel, by decide +kernel⟩
  refine own_of (d := D_mirrored_board) (N := ["board"]) (ds := b_mirrored_board) F hm sc (fun _ _ _ _ _ _ us hl => match us, hl with | [_], _ => rfl) fun cdv A outer s H E hr => ?_
  unfold b_mirrored_board 
  exact (lss_one (ls_ret (le_call o_as_board (hr.mono (by decide)) rfl (L2N.takes_of rfl rfl rfl rfl) (la_cons (le_call o_mirror_of (hr.mono (by decide)) rfl (L2N.takes_of rfl rfl rfl rfl) (la_cons (le_var (pv 0)) la_nil)) la_nil))))
abbrev s_moved_board : Stmt := top 14
def D_moved_board : He.DefD := ⟨("moved_board", none), "moved_board", "moved_board", defArgs s_moved_board, defBody s_moved_board, defScope s_moved_board, [], []⟩
theorem o_moved_board {P : Program} {w : World} {K : PySem.W.Frag} {mg : Str → Option Value} {base : Heap} {f : Addr} {fd : FuncData} (h : Fx K w mg) (F : FnP K "moved_board" s_moved_board f fd) (hm : mg "moved_board" = some (.ref f)) (o_turned_board : Own P w K mg base 4 "turned_board" ["board", "quarters"] F_turned_board) (o_mirrored_board : Own P w K mg base 4 "mirrored_board" ["board"] F_mirrored_board) : OwnAt P w K mg base 5 "moved_board" ["board", "mirrored", "quarters"] F_moved_board f fd := by
  have sc : FnScope ["board", "mirrored", "quarters"] ["board", "mirrored", "quarters"] (defScope s_moved_board) := ⟨rfl, rfl, rfl, by decide +kernel, rfl, by decide +kernel, by decide +kernel⟩
  refine own_of (d := D_moved_board) (N := ["board", "mirrored", "quarters"]) (ds := b_moved_board) F hm sc (fun _ _ _ _ _ _ us hl => match us, hl with | [_, _, _], _ => rfl) fun cdv A outer s H E hr => ?_
  unfold b_moved_board 
  exact (lss_one (ls_ret (le_call o_turned_board (hr.mono (by decide)) rfl (L2N.takes_of rfl rfl rfl rfl) (la_cons (le_ifE (lt_tru (le_var (pv 1))) (le_call o_mirrored_board (hr.mono (by decide)) rfl (L2N.takes_of rfl rfl rfl rfl) (la_cons (le_var (pv 0)) la_nil)) (le_var (pv 0))) (la_cons (le_var (pv 2)) la_nil)))))
abbrev s_eight_boards : Stmt := top 15
def D_eight_boards : He.DefD := ⟨("eight_boards", none), "eight_boards", "eight_boards", defArgs s_eight_boards, defBody s_eight_boards, defScope s_eight_boards, [], []⟩
theorem o_eight_boards {P : Program} {w : World} {K : PySem.W.Frag} {mg : Str → Option Value} {base : Heap} {f : Addr} {fd : FuncData} (h : Fx K w mg) (F : FnP K "eight_boards" s_eight_boards f fd) (hm : mg "eight_boards" = some (.ref f)) (o_moved_board : Own P w K mg base 5 "moved_board" ["board", "mirrored", "quarters"] F_moved_board) : OwnAt P w K mg base 6 "eight_boards" ["board"] F_eight_boards f fd := by
  have sc : FnScope ["board", "mirrored", "quarters"] ["board"] (defScope s_eight_boards) := ⟨rfl, rfl, rfl, by decide +kernel, rfl, by decide +kernel, by decide +kernel⟩
  refine own_of (d := D_eight_boards) (N := ["board", "mirrored", "quarters"]) (ds := b_eight_boards) F hm sc (fun _ _ _ _ _ _ us hl => match us, hl with | [_], _ => rfl) fun cdv A outer s H E hr => ?_
  unfold b_eight_boards C_eight_boards_0
  exact (lss_one (ls_ret (le_tuple rfl rfl h.f_tuple (la_cons (le_lc rfl sc.nd (li_seq (le_g rfl h.g_WAYS)) (own := [("mirrored", 1), ("quarters", 2)]) (blk_of (by kernel_rfl)) (fun _ _ _ _ _ => (lc_tup rfl (lcs_cons (lc_name (pg_name (i := 1) sc.nd rfl (by first | exact Or.inl rfl | exact Or.inr rfl))) (lcs_cons (lc_name (pg_name (i := 2) sc.nd rfl (by first | exact Or.inl rfl | exact Or.inr rfl))) lcs_nil)))) (fun _ _ _ _ _ => lts_nil) (fun _ _ _ _ _ => (le_call o_moved_board (hr.mono (by decide)) rfl takes0N (la_cons (le_var (pv 0)) (la_cons (le_var (pv 1)) (la_cons (le_var (pv 2)) la_nil)))))) la_nil))))
abbrev s_symmetry_count : Stmt := top 19
def D_symmetry_count : He.DefD := ⟨("symmetry_count", none), "symmetry_count", "symmetry_count", defArgs s_symmetry_count, defBody s_symmetry_count, defScope s_symmetry_count, [], []⟩
theorem o_symmetry_count {P : Program} {w : World} {K : PySem.W.Frag} {mg : Str → Option Value} {base : Heap} {f : Addr} {fd : FuncData} (h : Fx K w mg) (F : FnP K "symmetry_count" s_symmetry_count f fd) (hm : mg "symmetry_count" = some (.ref f)) (o_eight_boards : Own P w K mg base 6 "eight_boards" ["board"] F_eight_boards) : OwnAt P w K mg base 7 "symmetry_count" ["board"] F_symmetry_count f fd := by
  have sc : FnScope ["board"] ["board"] (defScope s_symmetry_count) := ⟨rfl, rfl, rfl, by decide +kernel, rfl, by decide +kernel, by decide +kernel⟩
  refine own_of (d := D_symmetry_count) (N := ["board"]) (ds := b_symmetry_count) F hm sc (fun _ _ _ _ _ _ us hl => match us, hl with | [_], _ => rfl) fun cdv A outer s H E hr => ?_
  unfold b_symmetry_count 
  exact (lss_one (ls_ret (le_countT (hu65 hr) (le_call o_eight_boards (hr.mono (by decide)) rfl (L2N.takes_of rfl rfl rfl rfl) (la_cons (le_var (pv 0)) la_nil)) (la_cons (le_var (pv 0)) la_nil) ⟨rfl, rfl, rfl, rfl, rfl⟩)))
abbrev s_likeness : Stmt := top 18
def D_likeness : He.DefD := ⟨("likeness", none), "likeness", "likeness", defArgs s_likeness, defBody s_likeness, defScope s_likeness, [], []⟩
theorem o_likeness {P : Program} {w : World} {K : PySem.W.Frag} {mg : Str → Option Value} {base : Heap} {f : Addr} {fd : FuncData} (h : Fx K w mg) (F : FnP K "likeness" s_likeness f fd) (hm : mg "likeness" = some (.ref f)) (o_moved_board : Own P w K mg base 5 "moved_board" ["board", "mirrored", "quarters"] F_moved_board) : OwnAt P w K mg base 6 "likeness" ["one", "other"] F_likeness f fd := by
  have sc : FnScope ["one", "other", "mirrored", "quarters"] ["one", "other"] (defScope s_likeness) := ⟨rfl, rfl, rfl, by decide +kernel, rfl, by decide +kernel, by decide +kernel⟩
  refine own_of (d := D_likeness) (N := ["one", "other", "mirrored", "quarters"]) (ds := b_likeness) F hm sc (fun _ _ _ _ _ _ us hl => match us, hl with | [_, _], _ => rfl) fun cdv A outer s H E hr => ?_
  unfold b_likeness L_likeness_0
  exact (lss_cons (ls_for (passes_of rfl) rfl (li_seq (le_g rfl h.g_WAYS)) (lg_tup rfl (lgs_cons (lg_name (pg_name (i := 2) sc.nd rfl (by first | exact Or.inl rfl | exact Or.inr rfl))) (lgs_cons (lg_name (pg_name (i := 3) sc.nd rfl (by first | exact Or.inl rfl | exact Or.inr rfl))) lgs_nil)))
  (lss_one (ls_if (lt_cmp (or_eq (hu65 hr)) od_eq (le_call o_moved_board (hr.mono (by decide)) rfl (L2N.takes_of rfl rfl rfl rfl) (la_cons (le_var (pv 0)) (la_cons (le_var (pv 2)) (la_cons (le_var (pv 3)) la_nil)))) (le_var (pv 1)))
  (lss_one (ls_ret (le_tup (la_cons (le_var (pv 2)) (la_cons (le_var (pv 3)) la_nil)))))
  lss_nil)))
  (lss_one (ls_ret le_n)))
abbrev s_least_form : Stmt := top 16
def D_least_form : He.DefD := ⟨("least_form", none), "least_form", "least_form", defArgs s_least_form, defBody s_least_form, defScope s_least_form, [], []⟩
theorem o_least_form {P : Program} {w : World} {K : PySem.W.Frag} {mg : Str → Option Value} {base : Heap} {f : Addr} {fd : FuncData} (h : Fx K w mg) (F : FnP K "least_form" s_least_form f fd) (hm : mg "least_form" = some (.ref f)) (o_eight_boards : Own P w K mg base 6 "eight_boards" ["board"] F_eight_boards) : OwnAt P w K mg base 7 "least_form" ["board"] F_least_form f fd := by
  have sc : FnScope ["board"] ["board"] (defScope s_least_form) := ⟨rfl, rfl, rfl, by decide +kernel, rfl, by decide +kernel, by decide +kernel⟩
  refine own_of (d := D_least_form) (N := ["board"]) (ds := b_least_form) F hm sc (fun _ _ _ _ _ _ us hl => match us, hl with | [_], _ => rfl) fun cdv A outer s H E hr => ?_
  unfold b_least_form 
  exact (lss_one (ls_ret (le_min1 rfl (hu65 hr) rfl h.f_min (la_cons (le_call o_eight_boards (hr.mono (by decide)) rfl (L2N.takes_of rfl rfl rfl rfl) (la_cons (le_var (pv 0)) la_nil)) la_nil))))
abbrev s__law_alone : Stmt := top 30
def D__law_alone : He.DefD := ⟨("_law_alone", none), "_law_alone", "_law_alone", defArgs s__law_alone, defBody s__law_alone, defScope s__law_alone, [], []⟩
theorem o__law_alone {P : Program} {w : World} {K : PySem.W.Frag} {mg : Str → Option Value} {base : Heap} {f : Addr} {fd : FuncData} (h : Fx K w mg) (F : FnP K "_law_alone" s__law_alone f fd) (hm : mg "_law_alone" = some (.ref f)) (o__law_eight : Own P w K mg base 3 "_law_eight" ["board"] F__law_eight) (o__law_same : Own P w K mg base 1 "_law_same" ["told", "due"] F__law_same_v3) (o_eight_boards : Own P w K mg base 6 "eight_boards" ["board"] F_eight_boards) (o_least_form : Own P w K mg base 7 "least_form" ["board"] F_least_form) (o_symmetry_count : Own P w K mg base 7 "symmetry_count" ["board"] F_symmetry_count) (o_likeness : Own P w K mg base 6 "likeness" ["one", "other"] F_likeness) : OwnAt P w K mg base 8 "_law_alone" ["board"] F__law_alone f fd := by
  have sc : FnScope ["board", "eight", "least", "one", "count"] ["board"] (defScope s__law_alone) := ⟨rfl, rfl, rfl, by decide +kernel, rfl, by decide +kernel, by decide +kernel⟩
  refine own_of (d := D__law_alone) (N := ["board", "eight", "least", "one", "count"]) (ds := b__law_alone) F hm sc (fun _ _ _ _ _ _ us hl => match us, hl with | [_], _ => rfl) fun cdv A outer s H E hr => ?_
  unfold b__law_alone C__law_alone_1 L__law_alone_0
  exact (lss_cons (ls_set (ps_set (i := 1) sc.nd rfl (by first | exact Or.inl rfl | exact Or.inr rfl) (le_call o__law_eight (hr.mono (by decide)) rfl (L2N.takes_of rfl rfl rfl rfl) (la_cons (le_var (pv 0)) la_nil))))
  (lss_cons (ls_set (ps_set (i := 2) sc.nd rfl (by first | exact Or.inl rfl | exact Or.inr rfl) (le_ix (hu65 hr) (le_var (pv 1)) le_i)))
  (lss_cons (ls_for (passes_of rfl) rfl (li_seq (le_var (pv 1))) (lg_name (pg_name (i := 3) sc.nd rfl (by first | exact Or.inl rfl | exact Or.inr rfl)))
  (lss_one (ls_if (lt_cmp (or_ltD (hu65 hr)) od_ltD (le_var (pv 3)) (le_var (pv 2)))
  (lss_one (ls_set (ps_set (i := 2) sc.nd rfl (by first | exact Or.inl rfl | exact Or.inr rfl) (le_var (pv 3)))))
  lss_nil)))
  (lss_cons (ls_set (ps_set (i := 4) sc.nd rfl (by first | exact Or.inl rfl | exact Or.inr rfl) (le_len rfl h.f_len (la_cons (le_lc rfl sc.nd (li_seq (le_var (pv 1))) (own := [("one", 3)]) (blk_of (by kernel_rfl)) (fun _ _ _ _ _ => (lc_name (pg_name (i := 3) sc.nd rfl (by first | exact Or.inl rfl | exact Or.inr rfl)))) (fun _ _ _ _ _ => (lts_one (lt_cmp (or_eq (hu65 hr)) od_eq (le_var (pv 3)) (le_var (pv 0))))) (fun _ _ _ _ _ => le_i)) la_nil))))
  (lss_cons (ls_if (lt_w (lw_or (lt_not (lt_tru (le_call o__law_same (hr.mono (by decide)) rfl (L2N.takes_of rfl rfl rfl rfl) (la_cons (le_call o_eight_boards (hr.mono (by decide)) rfl (L2N.takes_of rfl rfl rfl rfl) (la_cons (le_var (pv 0)) la_nil)) (la_cons (le_tuple rfl rfl h.f_tuple (la_cons (le_var (pv 1)) la_nil)) la_nil))))) (lw_or1 (lt_not (lt_tru (le_call o__law_same (hr.mono (by decide)) rfl (L2N.takes_of rfl rfl rfl rfl) (la_cons (le_call o_least_form (hr.mono (by decide)) rfl (L2N.takes_of rfl rfl rfl rfl) (la_cons (le_var (pv 0)) la_nil)) (la_cons (le_var (pv 2)) la_nil))))))))
  (lss_one (ls_ret le_b))
  lss_nil)
  (lss_one (ls_ret (le_andV (le_call o__law_same (hr.mono (by decide)) rfl (L2N.takes_of rfl rfl rfl rfl) (la_cons (le_call o_symmetry_count (hr.mono (by decide)) rfl (L2N.takes_of rfl rfl rfl rfl) (la_cons (le_var (pv 0)) la_nil)) (la_cons (le_var (pv 4)) la_nil))) (le_one (le_call o__law_same (hr.mono (by decide)) rfl (L2N.takes_of rfl rfl rfl rfl) (la_cons (le_call o_likeness (hr.mono (by decide)) rfl (L2N.takes_of rfl rfl rfl rfl) (la_cons (le_var (pv 0)) (la_cons (le_var (pv 0)) la_nil))) (la_cons (le_tup (la_cons le_b (la_cons le_i la_nil))) la_nil))))))))))))
abbrev s__law_changed : Stmt := top 32
def D__law_changed : He.DefD := ⟨("_law_changed", none), "_law_changed", "_law_changed", defArgs s__law_changed, defBody s__law_changed, defScope s__law_changed, [], []⟩
theorem o__law_changed {P : Program} {w : World} {K : PySem.W.Frag} {mg : Str → Option Value} {base : Heap} {f : Addr} {fd : FuncData} (h : Fx K w mg) (F : FnP K "_law_changed" s__law_changed f fd) (hm : mg "_law_changed" = some (.ref f)) (o__law_scoop : Own P w K mg base 1 "_law_scoop" ["bowl", "many"] F__law_scoop) : OwnAt P w K mg base 2 "_law_changed" ["bowl", "board"] F__law_changed f fd := by
  have sc : FnScope ["bowl", "board", "kinds", "row", "column", "line", "far", "kind", "new", "one"] ["bowl", "board"] (defScope s__law_changed) := ⟨rfl, rfl, rfl, by decide +kernel, rfl, by decide +kernel, by decide +kernel⟩
  refine own_of (d := D__law_changed) (N := ["bowl", "board", "kinds", "row", "column", "line", "far", "kind", "new", "one"]) (ds := b__law_changed) F hm sc (fun _ _ _ _ _ _ us hl => match us, hl with | [_, _], _ => rfl) fun cdv A outer s H E hr => ?_
  unfold b__law_changed C__law_changed_0
  exact (lss_cons (ls_set (ps_set (i := 2) sc.nd rfl (by first | exact Or.inl rfl | exact Or.inr rfl) (le_lst (la_cons le_s (la_cons le_s (la_cons le_s (la_cons le_s (la_cons le_s (la_cons le_s (la_cons le_s (la_cons le_s la_nil)))))))))))
  (lss_cons (ls_set (ps_set (i := 3) sc.nd rfl (by first | exact Or.inl rfl | exact Or.inr rfl) (le_call o__law_scoop (hr.mono (by decide)) rfl (L2N.takes_of rfl rfl rfl rfl) (la_cons (le_var (pv 0)) (la_cons (le_len rfl h.f_len (la_cons (le_var (pv 1)) la_nil)) la_nil)))))
  (lss_cons (ls_set (ps_set (i := 4) sc.nd rfl (by first | exact Or.inl rfl | exact Or.inr rfl) (le_call o__law_scoop (hr.mono (by decide)) rfl (L2N.takes_of rfl rfl rfl rfl) (la_cons (le_var (pv 0)) (la_cons (le_len rfl h.f_len (la_cons (le_ix (hu65 hr) (le_var (pv 1)) le_i) la_nil)) la_nil)))))
  (lss_cons (ls_setM (ps_set (i := 5) sc.nd rfl (by first | exact Or.inl rfl | exact Or.inr rfl) (le_ix (hu65 hr) (le_var (pv 1)) (le_var (pv 3)))))
  (lss_cons (ls_if (lt_cmp (or_eq (hu65 hr)) od_eq (le_call o__law_scoop (hr.mono (by decide)) rfl (L2N.takes_of rfl rfl rfl rfl) (la_cons (le_var (pv 0)) (la_cons le_i la_nil))) le_i)
  (lss_cons (ls_set (ps_set (i := 6) sc.nd rfl (by first | exact Or.inl rfl | exact Or.inr rfl) (le_call o__law_scoop (hr.mono (by decide)) rfl (L2N.takes_of rfl rfl rfl rfl) (la_cons (le_var (pv 0)) (la_cons (le_len rfl h.f_len (la_cons (le_var (pv 5)) la_nil)) la_nil)))))
  (lss_cons (ls_setM (ps_set (i := 5) sc.nd rfl (by first | exact Or.inl rfl | exact Or.inr rfl) (le_list rfl rfl h.f_list (la_cons (le_var (pv 5)) la_nil))))
  (lss_cons (ls_asg (le_tup (la_cons (le_ix (hu65 hr) (le_var (pv 5)) (le_var (pv 6))) (la_cons (le_ix (hu65 hr) (le_var (pv 5)) (le_var (pv 4))) la_nil))) (lg_tup rfl (lgs_cons (lg_sub (W := W0) (hu65 hr) (le_var (pv 5)) (le_var (pv 4))) (lgs_cons (lg_sub (W := W0) (hu65 hr) (le_var (pv 5)) (le_var (pv 6))) lgs_nil))))
  (lss_one (ls_ret (le_add (le_add (le_sl (le_var (pv 1)) lo_none (lo_some (le_var (pv 3)))) (le_tup (la_cons (le_tuple rfl rfl h.f_tuple (la_cons (le_var (pv 5)) la_nil)) la_nil))) (le_sl (le_var (pv 1)) (lo_some (le_add (le_var (pv 3)) le_i)) lo_none)))))))
  lss_nil)
  (lss_cons (ls_set (ps_set (i := 7) sc.nd rfl (by first | exact Or.inl rfl | exact Or.inr rfl) (le_ix (hu65 hr) (le_var (pv 2)) (le_call o__law_scoop (hr.mono (by decide)) rfl (L2N.takes_of rfl rfl rfl rfl) (la_cons (le_var (pv 0)) (la_cons le_i la_nil))))))
  (lss_cons (ls_set (ps_set (i := 8) sc.nd rfl (by first | exact Or.inl rfl | exact Or.inr rfl) (le_add (le_add (le_sl (le_var (pv 1)) lo_none (lo_some (le_var (pv 3)))) (le_tup (la_cons (le_add (le_add (le_sl (le_var (pv 5)) lo_none (lo_some (le_var (pv 4)))) (le_tup (la_cons (le_var (pv 7)) la_nil))) (le_sl (le_var (pv 5)) (lo_some (le_add (le_var (pv 4)) le_i)) lo_none)) la_nil))) (le_sl (le_var (pv 1)) (lo_some (le_add (le_var (pv 3)) le_i)) lo_none))))
  (lss_one (ls_ret (le_ifE (lt_cmp (or_eq (hu65 hr)) od_eq (le_join le_s (la_cons (le_lc rfl sc.nd (li_seq (le_var (pv 8))) (own := [("one", 9)]) (blk_of (by kernel_rfl)) (fun _ _ _ _ _ => (lc_name (pg_name (i := 9) sc.nd rfl (by first | exact Or.inl rfl | exact Or.inr rfl)))) (fun _ _ _ _ _ => lts_nil) (fun _ _ _ _ _ => (le_join le_s (la_cons (le_var (pv 9)) la_nil) ⟨rfl, rfl, rfl, rfl, rfl⟩))) la_nil) ⟨rfl, rfl, rfl, rfl, rfl⟩) le_s) (le_var (pv 1)) (le_var (pv 8))))))))))))
abbrev s__law_likeness : Stmt := top 29
def D__law_likeness : He.DefD := ⟨("_law_likeness", none), "_law_likeness", "_law_likeness", defArgs s__law_likeness, defBody s__law_likeness, defScope s__law_likeness, [], []⟩
theorem o__law_likeness {P : Program} {w : World} {K : PySem.W.Frag} {mg : Str → Option Value} {base : Heap} {f : Addr} {fd : FuncData} (h : Fx K w mg) (F : FnP K "_law_likeness" s__law_likeness f fd) (hm : mg "_law_likeness" = some (.ref f)) (o__law_eight : Own P w K mg base 3 "_law_eight" ["board"] F__law_eight) : OwnAt P w K mg base 4 "_law_likeness" ["one", "other"] F__law_likeness f fd := by
  have sc : FnScope ["one", "other", "eight", "at"] ["one", "other"] (defScope s__law_likeness) := ⟨rfl, rfl, rfl, by decide +kernel, rfl, by decide +kernel, by decide +kernel⟩
  refine own_of (d := D__law_likeness) (N := ["one", "other", "eight", "at"]) (ds := b__law_likeness) F hm sc (fun _ _ _ _ _ _ us hl => match us, hl with | [_, _], _ => rfl) fun cdv A outer s H E hr => ?_
  unfold b__law_likeness L__law_likeness_0
  exact (lss_cons (ls_set (ps_set (i := 2) sc.nd rfl (by first | exact Or.inl rfl | exact Or.inr rfl) (le_call o__law_eight (hr.mono (by decide)) rfl (L2N.takes_of rfl rfl rfl rfl) (la_cons (le_var (pv 0)) la_nil))))
  (lss_cons (ls_for (passes_of rfl) rfl (li_rng1 rfl h.f_range (la_cons le_i la_nil)) (lg_name (pg_name (i := 3) sc.nd rfl (by first | exact Or.inl rfl | exact Or.inr rfl)))
  (lss_one (ls_if (lt_cmp (or_eq (hu65 hr)) od_eq (le_ix (hu65 hr) (le_var (pv 2)) (le_var (pv 3))) (le_var (pv 1)))
  (lss_one (ls_ret (le_tup (la_cons (le_cmp or_gt od_lt (le_var (pv 3)) le_i) (la_cons (le_mod (le_int rfl h.f_int (la_cons (le_var (pv 3)) la_nil)) le_i) la_nil)))))
  lss_nil)))
  (lss_one (ls_ret le_n))))
abbrev s_are_alike : Stmt := top 17
def D_are_alike : He.DefD := ⟨("are_alike", none), "are_alike", "are_alike", defArgs s_are_alike, defBody s_are_alike, defScope s_are_alike, [], []⟩
theorem o_are_alike {P : Program} {w : World} {K : PySem.W.Frag} {mg : Str → Option Value} {base : Heap} {f : Addr} {fd : FuncData} (h : Fx K w mg) (F : FnP K "are_alike" s_are_alike f fd) (hm : mg "are_alike" = some (.ref f)) (o_least_form : Own P w K mg base 7 "least_form" ["board"] F_least_form) : OwnAt P w K mg base 8 "are_alike" ["one", "other"] F_are_alike f fd := by
  have sc : FnScope ["one", "other"] ["one", "other"] (defScope s_are_alike) := ⟨rfl, rfl, rfl, by decide +kernel, rfl, by decide +kernel, by decide +kernel⟩
  refine own_of (d := D_are_alike) (N := ["one", "other"]) (ds := b_are_alike) F hm sc (fun _ _ _ _ _ _ us hl => match us, hl with | [_, _], _ => rfl) fun cdv A outer s H E hr => ?_
  unfold b_are_alike 
  exact (lss_one (ls_ret (le_cmp (or_eq (hu65 hr)) od_eq (le_call o_least_form (hr.mono (by decide)) rfl (L2N.takes_of rfl rfl rfl rfl) (la_cons (le_var (pv 0)) la_nil)) (le_call o_least_form (hr.mono (by decide)) rfl (L2N.takes_of rfl rfl rfl rfl) (la_cons (le_var (pv 1)) la_nil)))))
abbrev s__law_asked : Stmt := top 31
def D__law_asked : He.DefD := ⟨("_law_asked", none), "_law_asked", "_law_asked", defArgs s__law_asked, defBody s__law_asked, defScope s__law_asked, [], []⟩
theorem o__law_asked {P : Program} {w : World} {K : PySem.W.Frag} {mg : Str → Option Value} {base : Heap} {f : Addr} {fd : FuncData} (h : Fx K w mg) (F : FnP K "_law_asked" s__law_asked f fd) (hm : mg "_law_asked" = some (.ref f)) (o__law_likeness : Own P w K mg base 4 "_law_likeness" ["one", "other"] F__law_likeness) (o__law_same : Own P w K mg base 1 "_law_same" ["told", "due"] F__law_same_v3) (o_likeness : Own P w K mg base 6 "likeness" ["one", "other"] F_likeness) (o_are_alike : Own P w K mg base 8 "are_alike" ["one", "other"] F_are_alike) : OwnAt P w K mg base 9 "_law_asked" ["one", "other"] F__law_asked_v4 f fd := by
  have sc : FnScope ["one", "other", "due"] ["one", "other"] (defScope s__law_asked) := ⟨rfl, rfl, rfl, by decide +kernel, rfl, by decide +kernel, by decide +kernel⟩
  refine own_of (d := D__law_asked) (N := ["one", "other", "due"]) (ds := b__law_asked_v4) F hm sc (fun _ _ _ _ _ _ us hl => match us, hl with | [_, _], _ => rfl) fun cdv A outer s H E hr => ?_
  unfold b__law_asked_v4 
  exact (lss_cons (ls_set (ps_set (i := 2) sc.nd rfl (by first | exact Or.inl rfl | exact Or.inr rfl) (le_call o__law_likeness (hr.mono (by decide)) rfl (L2N.takes_of rfl rfl rfl rfl) (la_cons (le_var (pv 0)) (la_cons (le_var (pv 1)) la_nil)))))
  (lss_cons (ls_if (lt_w (lw_or (lt_not (lt_tru (le_call o__law_same (hr.mono (by decide)) rfl (L2N.takes_of rfl rfl rfl rfl) (la_cons (le_call o_likeness (hr.mono (by decide)) rfl (L2N.takes_of rfl rfl rfl rfl) (la_cons (le_var (pv 0)) (la_cons (le_var (pv 1)) la_nil))) (la_cons (le_var (pv 2)) la_nil))))) (lw_or1 (lt_not (lt_tru (le_call o__law_same (hr.mono (by decide)) rfl (L2N.takes_of rfl rfl rfl rfl) (la_cons (le_call o_are_alike (hr.mono (by decide)) rfl (L2N.takes_of rfl rfl rfl rfl) (la_cons (le_var (pv 0)) (la_cons (le_var (pv 1)) la_nil))) (la_cons (le_cmp or_isnot od_is (le_var (pv 2)) le_n) la_nil))))))))
  (lss_one (ls_ret le_b))
  lss_nil)
  (lss_one (ls_ret (le_andV (le_call o__law_same (hr.mono (by decide)) rfl (L2N.takes_of rfl rfl rfl rfl) (la_cons (le_call o_are_alike (hr.mono (by decide)) rfl (L2N.takes_of rfl rfl rfl rfl) (la_cons (le_var (pv 1)) (la_cons (le_var (pv 0)) la_nil))) (la_cons (le_cmp or_isnot od_is (le_var (pv 2)) le_n) la_nil))) (le_one (le_call o__law_same (hr.mono (by decide)) rfl (L2N.takes_of rfl rfl rfl rfl) (la_cons (le_call o_likeness (hr.mono (by decide)) rfl (L2N.takes_of rfl rfl rfl rfl) (la_cons (le_var (pv 1)) (la_cons (le_var (pv 0)) la_nil))) (la_cons (le_call o__law_likeness (hr.mono (by decide)) rfl (L2N.takes_of rfl rfl rfl rfl) (la_cons (le_var (pv 1)) (la_cons (le_var (pv 0)) la_nil))) la_nil)))))))))
abbrev s__law_scene : Stmt := top 34
def D__law_scene : He.DefD := ⟨("_law_scene", none), "_law_scene", "_law_scene", defArgs s__law_scene, defBody s__law_scene, defScope s__law_scene, [], []⟩
theorem o__law_scene {P : Program} {w : World} {K : PySem.W.Frag} {mg : Str → Option Value} {base : Heap} {f : Addr} {fd : FuncData} (h : Fx K w mg) (F : FnP K "_law_scene" s__law_scene f fd) (hm : mg "_law_scene" = some (.ref f)) (o__law_alone : Own P w K mg base 8 "_law_alone" ["board"] F__law_alone) (o__law_eight : Own P w K mg base 3 "_law_eight" ["board"] F__law_eight) (o__law_scoop : Own P w K mg base 1 "_law_scoop" ["bowl", "many"] F__law_scoop) (o__law_asked : Own P w K mg base 9 "_law_asked" ["one", "other"] F__law_asked_v4) (o__law_changed : Own P w K mg base 2 "_law_changed" ["bowl", "board"] F__law_changed) (o__law_board : Own P w K mg base 2 "_law_board" ["bowl", "rows", "columns"] F__law_board_v8) : OwnAt P w K mg base 10 "_law_scene" ["bowl", "board"] F__law_scene f fd := by
  have sc : FnScope ["bowl", "board", "eight", "at", "other"] ["bowl", "board"] (defScope s__law_scene) := ⟨rfl, rfl, rfl, by decide +kernel, rfl, by decide +kernel, by decide +kernel⟩
  refine own_of (d := D__law_scene) (N := ["bowl", "board", "eight", "at", "other"]) (ds := b__law_scene) F hm sc (fun _ _ _ _ _ _ us hl => match us, hl with | [_, _], _ => rfl) fun cdv A outer s H E hr => ?_
  unfold b__law_scene L__law_scene_0
  exact (lss_cons (ls_if (lt_not (lt_tru (le_call o__law_alone (hr.mono (by decide)) rfl (L2N.takes_of rfl rfl rfl rfl) (la_cons (le_var (pv 1)) la_nil))))
  (lss_one (ls_ret le_b))
  lss_nil)
  (lss_cons (ls_set (ps_set (i := 2) sc.nd rfl (by first | exact Or.inl rfl | exact Or.inr rfl) (le_call o__law_eight (hr.mono (by decide)) rfl (L2N.takes_of rfl rfl rfl rfl) (la_cons (le_var (pv 1)) la_nil))))
  (lss_cons (ls_set (ps_set (i := 3) sc.nd rfl (by first | exact Or.inl rfl | exact Or.inr rfl) (le_call o__law_scoop (hr.mono (by decide)) rfl (L2N.takes_of rfl rfl rfl rfl) (la_cons (le_var (pv 0)) (la_cons le_i la_nil)))))
  (lss_cons (ls_if (lt_w (lw_or (lt_not (lt_tru (le_call o__law_asked (hr.mono (by decide)) rfl (L2N.takes_of rfl rfl rfl rfl) (la_cons (le_var (pv 1)) (la_cons (le_ix (hu65 hr) (le_var (pv 2)) (le_var (pv 3))) la_nil))))) (lw_or1 (lt_not (lt_tru (le_call o__law_alone (hr.mono (by decide)) rfl (L2N.takes_of rfl rfl rfl rfl) (la_cons (le_ix (hu65 hr) (le_var (pv 2)) (le_var (pv 3))) la_nil)))))))
  (lss_one (ls_ret le_b))
  lss_nil)
  (lss_cons (ls_for (passes_of rfl) rfl (li_seq (le_tup (la_cons (le_call o__law_changed (hr.mono (by decide)) rfl (L2N.takes_of rfl rfl rfl rfl) (la_cons (le_var (pv 0)) (la_cons (le_ix (hu65 hr) (le_var (pv 2)) (le_var (pv 3))) la_nil))) (la_cons (le_call o__law_changed (hr.mono (by decide)) rfl (L2N.takes_of rfl rfl rfl rfl) (la_cons (le_var (pv 0)) (la_cons (le_var (pv 1)) la_nil))) (la_cons (le_call o__law_board (hr.mono (by decide)) rfl (L2N.takes_of rfl rfl rfl rfl) (la_cons (le_var (pv 0)) (la_cons (le_len rfl h.f_len (la_cons (le_var (pv 1)) la_nil)) (la_cons (le_len rfl h.f_len (la_cons (le_ix (hu65 hr) (le_var (pv 1)) le_i) la_nil)) la_nil)))) la_nil))))) (lg_name (pg_name (i := 4) sc.nd rfl (by first | exact Or.inl rfl | exact Or.inr rfl)))
  (lss_one (ls_if (lt_not (lt_tru (le_call o__law_asked (hr.mono (by decide)) rfl (L2N.takes_of rfl rfl rfl rfl) (la_cons (le_var (pv 1)) (la_cons (le_var (pv 4)) la_nil)))))
  (lss_one (ls_ret le_b))
  lss_nil)))
  (lss_one (ls_ret (le_ifE (lt_cmp or_lt od_lt (le_len rfl h.f_len (la_cons (le_var (pv 1)) la_nil)) le_i) (le_call o__law_asked (hr.mono (by decide)) rfl (L2N.takes_of rfl rfl rfl rfl) (la_cons (le_var (pv 1)) (la_cons (le_add (le_var (pv 1)) (le_sl (le_var (pv 1)) lo_none (lo_some le_i))) la_nil))) le_b))))))))
abbrev s__law_even : Stmt := top 33
def D__law_even : He.DefD := ⟨("_law_even", none), "_law_even", "_law_even", defArgs s__law_even, defBody s__law_even, defScope s__law_even, [], []⟩
theorem o__law_even {P : Program} {w : World} {K : PySem.W.Frag} {mg : Str → Option Value} {base : Heap} {f : Addr} {fd : FuncData} (h : Fx K w mg) (F : FnP K "_law_even" s__law_even f fd) (hm : mg "_law_even" = some (.ref f)) (o__law_scoop : Own P w K mg base 1 "_law_scoop" ["bowl", "many"] F__law_scoop) (o__law_mirrored : Own P w K mg base 2 "_law_mirrored" ["board"] F__law_mirrored_v1) (o__law_turned : Own P w K mg base 2 "_law_turned" ["board"] F__law_turned_v1) : OwnAt P w K mg base 3 "_law_even" ["bowl", "board"] F__law_even f fd := by
  have sc : FnScope ["bowl", "board", "way", "small", "half", "kind", "line", "at"] ["bowl", "board"] (defScope s__law_even) := ⟨rfl, rfl, rfl, by decide +kernel, rfl, by decide +kernel, by decide +kernel⟩
  refine own_of (d := D__law_even) (N := ["bowl", "board", "way", "small", "half", "kind", "line", "at"]) (ds := b__law_even) F hm sc (fun _ _ _ _ _ _ us hl => match us, hl with | [_, _], _ => rfl) fun cdv A outer s H E hr => ?_
  unfold b__law_even C__law_even_2 C__law_even_1 C__law_even_0
  exact (lss_cons (ls_set (ps_set (i := 2) sc.nd rfl (by first | exact Or.inl rfl | exact Or.inr rfl) (le_call o__law_scoop (hr.mono (by decide)) rfl (L2N.takes_of rfl rfl rfl rfl) (la_cons (le_var (pv 0)) (la_cons le_i la_nil)))))
  (lss_cons (ls_set (ps_set (i := 3) sc.nd rfl (by first | exact Or.inl rfl | exact Or.inr rfl) (le_tuple rfl rfl h.f_tuple (la_cons (le_lc rfl sc.nd (li_seq (le_sl (le_var (pv 1)) lo_none (lo_some le_i))) (own := [("line", 6)]) (blk_of (by kernel_rfl)) (fun _ _ _ _ _ => (lc_name (pg_name (i := 6) sc.nd rfl (by first | exact Or.inl rfl | exact Or.inr rfl)))) (fun _ _ _ _ _ => lts_nil) (fun _ _ _ _ _ => (le_sl (le_var (pv 6)) lo_none (lo_some le_i)))) la_nil))))
  (lss_cons (ls_if (lt_cmp (or_eq (hu65 hr)) od_eq (le_join le_s (la_cons (le_lc rfl sc.nd (li_seq (le_var (pv 3))) (own := [("line", 6)]) (blk_of (by kernel_rfl)) (fun _ _ _ _ _ => (lc_name (pg_name (i := 6) sc.nd rfl (by first | exact Or.inl rfl | exact Or.inr rfl)))) (fun _ _ _ _ _ => lts_nil) (fun _ _ _ _ _ => (le_join le_s (la_cons (le_var (pv 6)) la_nil) ⟨rfl, rfl, rfl, rfl, rfl⟩))) la_nil) ⟨rfl, rfl, rfl, rfl, rfl⟩) le_s)
  (lss_one (ls_ret (le_tup (la_cons (le_tup (la_cons le_s (la_cons le_s la_nil))) (la_cons (le_tup (la_cons le_s (la_cons le_s la_nil))) la_nil)))))
  lss_nil)
  (lss_cons (ls_if (lt_cmp (or_eq (hu65 hr)) od_eq (le_var (pv 2)) le_i)
  (lss_one (ls_ret (le_tuple rfl rfl h.f_tuple (la_cons (le_lc rfl sc.nd (li_rng1 rfl h.f_range (la_cons (le_len rfl h.f_len (la_cons (le_var (pv 3)) la_nil)) la_nil)) (own := [("at", 7)]) (blk_of (by kernel_rfl)) (fun _ _ _ _ _ => (lc_name (pg_name (i := 7) sc.nd rfl (by first | exact Or.inl rfl | exact Or.inr rfl)))) (fun _ _ _ _ _ => lts_nil) (fun _ _ _ _ _ => (le_add (le_ix (hu65 hr) (le_var (pv 3)) (le_var (pv 7))) (le_ix (hu65 hr) (le_call o__law_mirrored (hr.mono (by decide)) rfl takes0N (la_cons (le_var (pv 3)) la_nil)) (le_var (pv 7)))))) la_nil))))
  lss_nil)
  (lss_cons (ls_if (lt_cmp (or_eq (hu65 hr)) od_eq (le_var (pv 2)) le_i)
  (lss_one (ls_ret (le_add (le_var (pv 3)) (le_call o__law_turned (hr.mono (by decide)) rfl (L2N.takes_of rfl rfl rfl rfl) (la_cons (le_call o__law_turned (hr.mono (by decide)) rfl (L2N.takes_of rfl rfl rfl rfl) (la_cons (le_call o__law_mirrored (hr.mono (by decide)) rfl (L2N.takes_of rfl rfl rfl rfl) (la_cons (le_var (pv 3)) la_nil)) la_nil)) la_nil)))))
  lss_nil)
  (lss_cons (ls_set (ps_set (i := 4) sc.nd rfl (by first | exact Or.inl rfl | exact Or.inr rfl) (le_call o__law_turned (hr.mono (by decide)) rfl (L2N.takes_of rfl rfl rfl rfl) (la_cons (le_call o__law_turned (hr.mono (by decide)) rfl (L2N.takes_of rfl rfl rfl rfl) (la_cons (le_var (pv 3)) la_nil)) la_nil))))
  (lss_cons (ls_if (lt_cmp (or_eq (hu65 hr)) od_eq (le_var (pv 2)) le_i)
  (lss_one (ls_ret (le_add (le_var (pv 3)) (le_var (pv 4)))))
  lss_nil)
  (lss_cons (ls_set (ps_set (i := 5) sc.nd rfl (by first | exact Or.inl rfl | exact Or.inr rfl) (le_ix (hu65 hr) (le_tup (la_cons le_s (la_cons le_s (la_cons le_s (la_cons le_s la_nil))))) (le_call o__law_scoop (hr.mono (by decide)) rfl (L2N.takes_of rfl rfl rfl rfl) (la_cons (le_var (pv 0)) (la_cons le_i la_nil))))))
  (lss_one (ls_ret (le_mul (le_tup (la_cons (le_mul (le_tup (la_cons (le_var (pv 5)) la_nil)) (le_len rfl h.f_len (la_cons (le_ix (hu65 hr) (le_var (pv 3)) le_i) la_nil))) la_nil)) (le_len rfl h.f_len (la_cons (le_var (pv 3)) la_nil)))))))))))))
abbrev s_law : Stmt := top 35
def D_law : He.DefD := ⟨("law", none), "law", "law", defArgs s_law, defBody s_law, defScope s_law, [], []⟩
theorem o_law {P : Program} {w : World} {K : PySem.W.Frag} {mg : Str → Option Value} {base : Heap} {f : Addr} {fd : FuncData} (h : Fx K w mg) (F : FnP K "law" s_law f fd) (hm : mg "law" = some (.ref f)) (o__law_bowl : Own P w K mg base 1 "_law_bowl" ["script"] F__law_bowl) (o__law_board : Own P w K mg base 2 "_law_board" ["bowl", "rows", "columns"] F__law_board_v8) (o__law_scoop : Own P w K mg base 1 "_law_scoop" ["bowl", "many"] F__law_scoop) (o__law_scene : Own P w K mg base 10 "_law_scene" ["bowl", "board"] F__law_scene) (o__law_alone : Own P w K mg base 8 "_law_alone" ["board"] F__law_alone) (o__law_even : Own P w K mg base 3 "_law_even" ["bowl", "board"] F__law_even) (o__law_same : Own P w K mg base 1 "_law_same" ["told", "due"] F__law_same_v3) (o_likeness : Own P w K mg base 6 "likeness" ["one", "other"] F_likeness) (o_k0_likeness : OwnK P w K mg base 6 "likeness" ["one", "other"] F_likeness 0 ["one", "other"] [0, 1]) (o_eight_boards : Own P w K mg base 6 "eight_boards" ["board"] F_eight_boards) (o_k1_eight_boards : OwnK P w K mg base 6 "eight_boards" ["board"] F_eight_boards 0 ["board"] [0]) (o_symmetry_count : Own P w K mg base 7 "symmetry_count" ["board"] F_symmetry_count) (o_are_alike : Own P w K mg base 8 "are_alike" ["one", "other"] F_are_alike) (o_k2_are_alike : OwnK P w K mg base 8 "are_alike" ["one", "other"] F_are_alike 0 ["one", "other"] [0, 1]) (o_k3_symmetry_count : OwnK P w K mg base 7 "symmetry_count" ["board"] F_symmetry_count 0 ["board"] [0]) (o_least_form : Own P w K mg base 7 "least_form" ["board"] F_least_form) (o_k4_least_form : OwnK P w K mg base 7 "least_form" ["board"] F_least_form 0 ["board"] [0]) : OwnAt P w K mg base 11 "law" ["script"] F_law_v10 f fd := by
  have sc : FnScope ["script", "bowl", "lap", "board", "letter", "other"] ["script"] (defScope s_law) := ⟨rfl, rfl, rfl, by decide +kernel, rfl, by decide +kernel, by decide +kernel⟩
  refine own_of (d := D_law) (N := ["script", "bowl", "lap", "board", "letter", "other"]) (ds := b_law_v10) F hm sc (fun _ _ _ _ _ _ us hl => match us, hl with | [_], _ => rfl) fun cdv A outer s H E hr => ?_
  unfold b_law_v10 L_law_v10_0
  exact (lss_cons (ls_setM (ps_set (i := 1) sc.nd rfl (by first | exact Or.inl rfl | exact Or.inr rfl) (le_call o__law_bowl (hr.mono (by decide)) rfl (L2N.takes_of rfl rfl rfl rfl) (la_cons (le_var (pv 0)) la_nil))))
  (lss_cons (ls_for (passes_of rfl) rfl (li_rng1 rfl h.f_range (la_cons le_i la_nil)) (lg_name (pg_name (i := 2) sc.nd rfl (by first | exact Or.inl rfl | exact Or.inr rfl)))
  (lss_cons (ls_set (ps_set (i := 3) sc.nd rfl (by first | exact Or.inl rfl | exact Or.inr rfl) (le_call o__law_board (hr.mono (by decide)) rfl (L2N.takes_of rfl rfl rfl rfl) (la_cons (le_var (pv 1)) (la_cons (le_add le_i (le_call o__law_scoop (hr.mono (by decide)) rfl (L2N.takes_of rfl rfl rfl rfl) (la_cons (le_var (pv 1)) (la_cons le_i la_nil)))) (la_cons (le_add le_i (le_call o__law_scoop (hr.mono (by decide)) rfl (L2N.takes_of rfl rfl rfl rfl) (la_cons (le_var (pv 1)) (la_cons le_i la_nil)))) la_nil))))))
  (lss_one (ls_if (lt_w (lw_or (lt_not (lt_tru (le_call o__law_scene (hr.mono (by decide)) rfl (L2N.takes_of rfl rfl rfl rfl) (la_cons (le_var (pv 1)) (la_cons (le_var (pv 3)) la_nil))))) (lw_or1 (lt_not (lt_tru (le_call o__law_alone (hr.mono (by decide)) rfl (L2N.takes_of rfl rfl rfl rfl) (la_cons (le_call o__law_even (hr.mono (by decide)) rfl (L2N.takes_of rfl rfl rfl rfl) (la_cons (le_var (pv 1)) (la_cons (le_var (pv 3)) la_nil))) la_nil)))))))
  (lss_one (ls_ret le_b))
  lss_nil))))
  (lss_cons (ls_set (ps_set (i := 4) sc.nd rfl (by first | exact Or.inl rfl | exact Or.inr rfl) (le_ix (hu65 hr) le_s (le_call o__law_scoop (hr.mono (by decide)) rfl (L2N.takes_of rfl rfl rfl rfl) (la_cons (le_var (pv 1)) (la_cons le_i la_nil))))))
  (lss_cons (ls_set (ps_set (i := 5) sc.nd rfl (by first | exact Or.inl rfl | exact Or.inr rfl) (le_ix (hu65 hr) le_s (le_index3 (hu65 hr) le_s (la_cons (le_var (pv 4)) la_nil) ⟨rfl, rfl, rfl, rfl, rfl⟩))))
  (lss_cons (ls_if (lt_not (lt_tru (le_call o__law_same (hr.mono (by decide)) rfl (L2N.takes_of rfl rfl rfl rfl) (la_cons (le_callK0 o_k0_likeness (hr.mono (by decide)) rfl (L2N.takes_of rfl rfl rfl rfl) (lk_cons (le_tup (la_cons (le_tup (la_cons (le_var (pv 4)) (la_cons le_s la_nil))) la_nil)) (lk_cons (le_tup (la_cons (le_tup (la_cons (le_var (pv 5)) la_nil)) (la_cons (le_tup (la_cons le_s la_nil)) la_nil))) lk_nil))) (la_cons (le_tup (la_cons le_b (la_cons le_i la_nil))) la_nil)))))
  (lss_one (ls_ret le_b))
  lss_nil)
  (lss_cons (ls_if (lt_w (lw_or (lt_not (lt_tru (le_call o__law_same (hr.mono (by decide)) rfl (L2N.takes_of rfl rfl rfl rfl) (la_cons (le_ix (hu65 hr) (le_callK0 o_k1_eight_boards (hr.mono (by decide)) rfl (L2N.takes_of rfl rfl rfl rfl) (lk_cons (le_tup (la_cons (le_tup (la_cons (le_var (pv 4)) (la_cons le_s la_nil))) la_nil)) lk_nil)) le_i) (la_cons (le_tup (la_cons (le_tup (la_cons le_s (la_cons (le_var (pv 4)) la_nil))) la_nil)) la_nil))))) (lw_or1 (lt_cmp (or_ne (hu65 hr)) od_ne (le_call o_symmetry_count (hr.mono (by decide)) rfl (L2N.takes_of rfl rfl rfl rfl) (la_cons (le_tup (la_cons (le_tup (la_cons (le_var (pv 4)) (la_cons le_s la_nil))) la_nil)) la_nil)) le_i))))
  (lss_one (ls_ret le_b))
  lss_nil)
  (lss_cons (ls_if (lt_not (lt_tru (le_call o__law_same (hr.mono (by decide)) rfl (L2N.takes_of rfl rfl rfl rfl) (la_cons (le_callK0 o_k2_are_alike (hr.mono (by decide)) rfl (L2N.takes_of rfl rfl rfl rfl) (lk_cons (le_tup (la_cons (le_tup (la_cons (le_var (pv 4)) (la_cons le_s la_nil))) la_nil)) (lk_cons (le_tup (la_cons (le_tup (la_cons le_s (la_cons (le_var (pv 4)) la_nil))) (la_cons (le_tup (la_cons le_s (la_cons le_s la_nil))) la_nil))) lk_nil))) (la_cons le_b la_nil)))))
  (lss_one (ls_ret le_b))
  lss_nil)
  (lss_cons (ls_if (lt_w (lw_or (lt_not (lt_tru (le_call o__law_same (hr.mono (by decide)) rfl (L2N.takes_of rfl rfl rfl rfl) (la_cons (le_callK0 o_k3_symmetry_count (hr.mono (by decide)) rfl (L2N.takes_of rfl rfl rfl rfl) (lk_cons (le_mul (le_tup (la_cons (le_mul (le_tup (la_cons le_s la_nil)) le_i) la_nil)) le_i) lk_nil)) (la_cons le_i la_nil))))) (lw_or1 (lt_not (lt_tru (le_call o__law_same (hr.mono (by decide)) rfl (L2N.takes_of rfl rfl rfl rfl) (la_cons (le_callK0 o_k4_least_form (hr.mono (by decide)) rfl (L2N.takes_of rfl rfl rfl rfl) (lk_cons (le_tup (la_cons (le_tup (la_cons (le_var (pv 5)) (la_cons le_s la_nil))) la_nil)) lk_nil)) (la_cons (le_tup (la_cons (le_tup (la_cons le_s la_nil)) (la_cons (le_tup (la_cons le_s la_nil)) la_nil))) la_nil))))))))
  (lss_one (ls_ret le_b))
  lss_nil)
  (lss_one (ls_ret (le_orV (le_cmp (or_ne (hu65 hr)) od_ne (le_call o__law_scoop (hr.mono (by decide)) rfl (L2N.takes_of rfl rfl rfl rfl) (la_cons (le_var (pv 1)) (la_cons le_i la_nil))) le_i) (le_one (le_call o__law_scene (hr.mono (by decide)) rfl (L2N.takes_of rfl rfl rfl rfl) (la_cons (le_var (pv 1)) (la_cons (le_call o__law_board (hr.mono (by decide)) rfl (L2N.takes_of rfl rfl rfl rfl) (la_cons (le_var (pv 1)) (la_cons le_i (la_cons (le_add le_i (le_call o__law_scoop (hr.mono (by decide)) rfl (L2N.takes_of rfl rfl rfl rfl) (la_cons (le_var (pv 1)) (la_cons le_i la_nil)))) la_nil)))) la_nil)))))))))))))))
end Gk36

namespace Gk36
open PySem PySem.Spec L2 Dn Pk
/-! the head -/
def fnl : List He.DefD := [D__law_bowl, D__law_scoop, D__law_board, D__law_same, D__law_exchanged, D__law_mirrored, D__law_turned, D__law_eight, D_kind_of_letters, D_exchanged_kind, D_as_board, D_quarter_of, D_turned_board, D_mirror_of, D_mirrored_board, D_moved_board, D_eight_boards, D_symmetry_count, D_likeness, D_least_form, D__law_alone, D__law_changed, D__law_likeness, D_are_alike, D__law_asked, D__law_scene, D__law_even, D_law]
def fal : List He.Fa := ([.glo "_law_bowl", .glo "_law_scoop", .glo "_law_board", .glo "_law_same", .glo "_law_exchanged", .glo "_law_mirrored", .glo "_law_turned", .glo "_law_eight", .glo "kind_of_letters", .glo "exchanged_kind", .glo "as_board", .glo "quarter_of"] : List He.Fa) ++ ([.glo "turned_board", .glo "mirror_of", .glo "mirrored_board", .glo "moved_board", .glo "eight_boards", .glo "symmetry_count", .glo "likeness", .glo "least_form", .glo "_law_alone", .glo "_law_changed", .glo "_law_likeness", .glo "are_alike"] : List He.Fa) ++ ([.glo "_law_asked", .glo "_law_scene", .glo "_law_even", .glo "law", .free "abs", .free "bool", .free "int", .free "isinstance", .free "len", .free "list", .free "min", .free "range"] : List He.Fa) ++ ([.free "str", .free "tuple"] : List He.Fa)
def tabs : List He.Tab := [((fun K => He.ga K "EXCHANGED"), ["d", "s", "u", "#"])]
def exB (K : PySem.W.Frag) : Bool := (chkG K "LETTERS" c_LETTERS && (chkD K "EXCHANGED" ([("d", .str "u"), ("s", .str "s"), ("u", .str "d"), ("#", .str "#")] : List (Str × T)) && (chkG K "WAYS" c_WAYS && true)))
abbrev R : PySem.W.OpenRow := PySem.W.OpenLaw.row PySem.Challenge.rw_lightled_k36_alikes
abbrev hk : PySem.W.Hook := He.hookX 5 fal fnl tabs [] exB
def ob (s : PySem.W.SharedT) : He.AlX := He.obsX 5 fal fnl tabs [] exB (HandSHeadRun.getT s)
theorem ob_eq (s : PySem.W.SharedT) : ob s = hk.obs s.abs := He.obsX_eq (HandSHeadRun.getT_eq s)
def loose : List Str := (["LETTERS", "kind_of_letters", "EXCHANGED", "exchanged_kind", "quarter_of", "mirror_of", "as_board", "turned_board", "mirrored_board", "WAYS", "moved_board", "eight_boards"] : List Str) ++ (["least_form", "are_alike", "likeness", "symmetry_count", "_law_bowl", "_law_scoop", "_law_board", "_law_same", "_law_exchanged", "_law_turned", "_law_mirrored", "_law_eight"] : List Str) ++ (["_law_likeness", "_law_alone", "_law_asked", "_law_changed", "_law_even", "_law_scene"] : List Str)
abbrev qv : Program := PySem.W.view R.prog [35]
set_option maxHeartbeats 0 in
theorem run (w : World) : HandSHeadRun.RunEq R qv hk ob 20000 loose w := by
  refine PySem.W.byRow2 "special-get-raises" (P := fun w => HandSHeadRun.RunEq R qv hk ob 20000 loose w) ?_ ?_ w
  · intro w os
    kernel_rfl
  · intro w os
    kernel_rfl
theorem facts {P : Program} {w : World} {K : PySem.W.Frag} {h : Heap} {mg : Str → Option Value} (X : K.In h) (G : h.Ns mainGlobals mg) (c : He.SaysX fal fnl tabs [] exB w h K) :
    ∃ fd : FuncData, (∀ (s : Shared) (v : Value), BindsTo s fd ⟨[v], []⟩ [("script", v)]) ∧ ∀ base : Heap, OwnAt P w K mg base 11 "law" ["script"] F_law_v10 (He.ga K "law") fd := by
  have cx := c.more
  unfold exB at cx
  simp only [Bool.and_eq_true, and_true] at cx
  obtain ⟨x_0, x_1, x_2⟩ := cx
  obtain ⟨es_0, n_0, T_0⟩ := c.t.tab 0 rfl
  have hx : Fx K w mg := {
    f_abs := He.free_ok X G (c.t.d.fact 28 (f := .free "abs") rfl)
    f_bool := He.free_ok X G (c.t.d.fact 29 (f := .free "bool") rfl)
    f_int := He.free_ok X G (c.t.d.fact 30 (f := .free "int") rfl)
    f_isinstance := He.free_ok X G (c.t.d.fact 31 (f := .free "isinstance") rfl)
    f_len := He.free_ok X G (c.t.d.fact 32 (f := .free "len") rfl)
    f_list := He.free_ok X G (c.t.d.fact 33 (f := .free "list") rfl)
    f_min := He.free_ok X G (c.t.d.fact 34 (f := .free "min") rfl)
    f_range := He.free_ok X G (c.t.d.fact 35 (f := .free "range") rfl)
    f_str := He.free_ok X G (c.t.d.fact 36 (f := .free "str") rfl)
    f_tuple := He.free_ok X G (c.t.d.fact 37 (f := .free "tuple") rfl)
    g_LETTERS := chkG_ok X G x_0
    g_EXCHANGED := chkD_ok X G T_0 x_1
    g_WAYS := chkG_ok X G x_2
  }
  obtain ⟨fd_0, A_0⟩ := c.t.d.def_ 0 (d := D__law_bowl) rfl
  obtain ⟨fd_1, A_1⟩ := c.t.d.def_ 1 (d := D__law_scoop) rfl
  obtain ⟨fd_2, A_2⟩ := c.t.d.def_ 2 (d := D__law_board) rfl
  obtain ⟨fd_3, A_3⟩ := c.t.d.def_ 3 (d := D__law_same) rfl
  obtain ⟨fd_4, A_4⟩ := c.t.d.def_ 4 (d := D__law_exchanged) rfl
  obtain ⟨fd_5, A_5⟩ := c.t.d.def_ 5 (d := D__law_mirrored) rfl
  obtain ⟨fd_6, A_6⟩ := c.t.d.def_ 6 (d := D__law_turned) rfl
  obtain ⟨fd_7, A_7⟩ := c.t.d.def_ 7 (d := D__law_eight) rfl
  obtain ⟨fd_8, A_8⟩ := c.t.d.def_ 8 (d := D_kind_of_letters) rfl
  obtain ⟨fd_9, A_9⟩ := c.t.d.def_ 9 (d := D_exchanged_kind) rfl
  obtain ⟨fd_10, A_10⟩ := c.t.d.def_ 10 (d := D_as_board) rfl
  obtain ⟨fd_11, A_11⟩ := c.t.d.def_ 11 (d := D_quarter_of) rfl
  obtain ⟨fd_12, A_12⟩ := c.t.d.def_ 12 (d := D_turned_board) rfl
  obtain ⟨fd_13, A_13⟩ := c.t.d.def_ 13 (d := D_mirror_of) rfl
  obtain ⟨fd_14, A_14⟩ := c.t.d.def_ 14 (d := D_mirrored_board) rfl
  obtain ⟨fd_15, A_15⟩ := c.t.d.def_ 15 (d := D_moved_board) rfl
  obtain ⟨fd_16, A_16⟩ := c.t.d.def_ 16 (d := D_eight_boards) rfl
  obtain ⟨fd_17, A_17⟩ := c.t.d.def_ 17 (d := D_symmetry_count) rfl
  obtain ⟨fd_18, A_18⟩ := c.t.d.def_ 18 (d := D_likeness) rfl
  obtain ⟨fd_19, A_19⟩ := c.t.d.def_ 19 (d := D_least_form) rfl
  obtain ⟨fd_20, A_20⟩ := c.t.d.def_ 20 (d := D__law_alone) rfl
  obtain ⟨fd_21, A_21⟩ := c.t.d.def_ 21 (d := D__law_changed) rfl
  obtain ⟨fd_22, A_22⟩ := c.t.d.def_ 22 (d := D__law_likeness) rfl
  obtain ⟨fd_23, A_23⟩ := c.t.d.def_ 23 (d := D_are_alike) rfl
  obtain ⟨fd_24, A_24⟩ := c.t.d.def_ 24 (d := D__law_asked) rfl
  obtain ⟨fd_25, A_25⟩ := c.t.d.def_ 25 (d := D__law_scene) rfl
  obtain ⟨fd_26, A_26⟩ := c.t.d.def_ 26 (d := D__law_even) rfl
  obtain ⟨fd_27, A_27⟩ := c.t.d.def_ 27 (d := D_law) rfl
  have b := FunD.bindsA (ps := ["script"]) A_27 fun _ _ _ _ _ _ us hl => match us, hl with | [_], _ => rfl
  refine ⟨fd_27, fun s v => b s [v] rfl, fun base => ?_⟩
  have B_0 := o__law_bowl (P := P) (base := base) hx A_0 (He.glo_ok X G (c.t.d.fact 0 (f := .glo "_law_bowl") rfl))
  have B_1 := o__law_scoop (P := P) (base := base) hx A_1 (He.glo_ok X G (c.t.d.fact 1 (f := .glo "_law_scoop") rfl))
  have B_2 := o__law_board (P := P) (base := base) hx A_2 (He.glo_ok X G (c.t.d.fact 2 (f := .glo "_law_board") rfl)) B_1.own
  have B_3 := o__law_same (P := P) (base := base) hx A_3 (He.glo_ok X G (c.t.d.fact 3 (f := .glo "_law_same") rfl))
  have B_4 := o__law_exchanged (P := P) (base := base) hx A_4 (He.glo_ok X G (c.t.d.fact 4 (f := .glo "_law_exchanged") rfl))
  have B_5 := o__law_mirrored (P := P) (base := base) hx A_5 (He.glo_ok X G (c.t.d.fact 5 (f := .glo "_law_mirrored") rfl)) B_4.own
  have B_6 := o__law_turned (P := P) (base := base) hx A_6 (He.glo_ok X G (c.t.d.fact 6 (f := .glo "_law_turned") rfl)) B_4.own
  have B_7 := o__law_eight (P := P) (base := base) hx A_7 (He.glo_ok X G (c.t.d.fact 7 (f := .glo "_law_eight") rfl)) B_5.own B_6.own
  have B_8 := o_kind_of_letters (P := P) (base := base) hx A_8 (He.glo_ok X G (c.t.d.fact 8 (f := .glo "kind_of_letters") rfl))
  have B_9 := o_exchanged_kind (P := P) (base := base) hx A_9 (He.glo_ok X G (c.t.d.fact 9 (f := .glo "exchanged_kind") rfl)) B_8.own
  have B_10 := o_as_board (P := P) (base := base) hx A_10 (He.glo_ok X G (c.t.d.fact 10 (f := .glo "as_board") rfl)) B_9.own
  have B_11 := o_quarter_of (P := P) (base := base) hx A_11 (He.glo_ok X G (c.t.d.fact 11 (f := .glo "quarter_of") rfl))
  have B_12 := o_turned_board (P := P) (base := base) hx A_12 (He.glo_ok X G (c.t.d.fact 12 (f := .glo "turned_board") rfl)) B_10.own B_11.own
  have B_13 := o_mirror_of (P := P) (base := base) hx A_13 (He.glo_ok X G (c.t.d.fact 13 (f := .glo "mirror_of") rfl))
  have B_14 := o_mirrored_board (P := P) (base := base) hx A_14 (He.glo_ok X G (c.t.d.fact 14 (f := .glo "mirrored_board") rfl)) B_10.own B_13.own
  have B_15 := o_moved_board (P := P) (base := base) hx A_15 (He.glo_ok X G (c.t.d.fact 15 (f := .glo "moved_board") rfl)) B_12.own B_14.own
  have B_16 := o_eight_boards (P := P) (base := base) hx A_16 (He.glo_ok X G (c.t.d.fact 16 (f := .glo "eight_boards") rfl)) B_15.own
  have B_17 := o_symmetry_count (P := P) (base := base) hx A_17 (He.glo_ok X G (c.t.d.fact 17 (f := .glo "symmetry_count") rfl)) B_16.own
  have B_18 := o_likeness (P := P) (base := base) hx A_18 (He.glo_ok X G (c.t.d.fact 18 (f := .glo "likeness") rfl)) B_15.own
  have B_19 := o_least_form (P := P) (base := base) hx A_19 (He.glo_ok X G (c.t.d.fact 19 (f := .glo "least_form") rfl)) B_16.own
  have B_20 := o__law_alone (P := P) (base := base) hx A_20 (He.glo_ok X G (c.t.d.fact 20 (f := .glo "_law_alone") rfl)) B_7.own B_3.own B_16.own B_19.own B_17.own B_18.own
  have B_21 := o__law_changed (P := P) (base := base) hx A_21 (He.glo_ok X G (c.t.d.fact 21 (f := .glo "_law_changed") rfl)) B_1.own
  have B_22 := o__law_likeness (P := P) (base := base) hx A_22 (He.glo_ok X G (c.t.d.fact 22 (f := .glo "_law_likeness") rfl)) B_7.own
  have B_23 := o_are_alike (P := P) (base := base) hx A_23 (He.glo_ok X G (c.t.d.fact 23 (f := .glo "are_alike") rfl)) B_19.own
  have B_24 := o__law_asked (P := P) (base := base) hx A_24 (He.glo_ok X G (c.t.d.fact 24 (f := .glo "_law_asked") rfl)) B_22.own B_3.own B_18.own B_23.own
  have B_25 := o__law_scene (P := P) (base := base) hx A_25 (He.glo_ok X G (c.t.d.fact 25 (f := .glo "_law_scene") rfl)) B_20.own B_7.own B_1.own B_24.own B_21.own B_2.own
  have B_26 := o__law_even (P := P) (base := base) hx A_26 (He.glo_ok X G (c.t.d.fact 26 (f := .glo "_law_even") rfl)) B_1.own B_5.own B_6.own
  have B_27 := o_law (P := P) (base := base) hx A_27 (He.glo_ok X G (c.t.d.fact 27 (f := .glo "law") rfl)) B_0.own B_2.own B_1.own B_25.own B_20.own B_26.own B_3.own B_18.own (B_18.kw (kbn_of A_18 fun _ _ _ _ _ _ us ws h1 h2 => match us, ws, h1, h2 with | [], [_, _], _, _ => rfl)) B_16.own (B_16.kw (kbn_of A_16 fun _ _ _ _ _ _ us ws h1 h2 => match us, ws, h1, h2 with | [], [_], _, _ => rfl)) B_17.own B_23.own (B_23.kw (kbn_of A_23 fun _ _ _ _ _ _ us ws h1 h2 => match us, ws, h1, h2 with | [], [_, _], _, _ => rfl)) (B_17.kw (kbn_of A_17 fun _ _ _ _ _ _ us ws h1 h2 => match us, ws, h1, h2 with | [], [_], _, _ => rfl)) B_19.own (B_19.kw (kbn_of A_19 fun _ _ _ _ _ _ us ws h1 h2 => match us, ws, h1, h2 with | [], [_], _, _ => rfl))
  exact B_27
end Gk36

open PySem PySem.W PySem.Calls PyProof.Rows in
set_option maxRecDepth 100000 in
set_option maxHeartbeats 0 in
theorem PySem.Challenge.cw_lightled_k36_alikes_holds : PySem.Challenge.rw_lightled_k36_alikes.Holds := by
  w_on; o_law
  refine HandSHeadRun.head_any (r := OpenLaw.row PySem.Challenge.rw_lightled_k36_alikes) (q := view (OpenLaw.row PySem.Challenge.rw_lightled_k36_alikes).prog [35]) (H := Gk36.hk) (ob := Gk36.ob) (M := 20000) (loose := Gk36.loose) (d := HandSHeadRun.topDef (OpenLaw.row PySem.Challenge.rw_lightled_k36_alikes).prog 35) (kwd := []) Gk36.ob_eq
    (by kernel_rfl) (fun s => by kernel_rfl) Gk36.run (by kernel_rfl) (by kernel_rfl) (by kernel_rfl) (by rfl) (by first | assumption | decide +kernel) (by decide +kernel) ⟨rfl, rfl, rfl, rfl, rfl, by decide +kernel⟩ ?hw ?hc
  case hw => w_witness2
  case hc =>
    refine Dn.walk_law (l := PySem.Challenge.rw_lightled_k36_alikes) (k := 11) (F := Pk.F_law_v10) rfl (by kernel_rfl) ⟨rfl, by decide, by decide⟩ (fun ns hl => Bd.law_true ns hl) ?F
    intro w mg fa h Y G hmg0
    obtain ⟨K, KX, c⟩ := Y
    have e : (HandSHeadRun.topDef (OpenLaw.row PySem.Challenge.rw_lightled_k36_alikes).prog 35).name = ("law" : PySem.Str) := by kernel_rfl
    obtain ⟨fd, hb, hO⟩ := Gk36.facts (P := (PySem.Challenge.rw_lightled_k36_alikes).prog) (w := w) KX G c
    refine ⟨K, fd, KX, hb, fun base => ⟨_, ?_, hO base⟩⟩
    rw [e]
    exact (hO base).hm
