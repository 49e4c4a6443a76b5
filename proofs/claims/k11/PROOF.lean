import PyProof.Rows.All
import Wide.All
import OpenK.AllK
import Wide.FinOn
import HandS.ForMost
import HandS.Exc
import HandS.ExcInit
import HandS.TryOnly
import HandS.WordsExc
import HandS.Deep
import HandS.TupAny
import HandS.TupMul
import HandS.Flow
import HandS.Style
import HandS.Wide
import HandS.WideBits
import HandS.Conv
import HandS.IsInst
import HandS.More
import PyProof.StrOps2
import PyProof.ListStr
import PyProof.TupleOfStr
import HandS.CallSlots
import HandS.Small
import HandS.ExcCtx
import KE.SortData
import HandS.TupLen
import HandS.Replace
import HandS.Defaults
import KE.KStateDown
import HandS.Base
import HandS.Call
import HandS.Ends
import HandS.Words
import HandS.Head0
import HandS.Head1
import HandS.Head2
import HandS.HeadEnd
import HandS.HeadHook1
import HandS.HeadHook2
import HandS.HeadHook3
import HandS.HeadHook4
import HandS.ExcField
import HandS.ExcIs
import HandS.TryMany
import HandS.HotCalls
import HandS.Hot
import KE.DatumOrd
import HandS.Codes
import PySem.Challenge.RW_lightled_k11_settings_checked
set_option Elab.async false
set_option linter.all false
set_option maxRecDepth 100000
set_option autoImplicit false
/-! values as trees, the store of what may change, and how they lie in the layer's heap -/
namespace Dn
open PySem PySem.Spec L2

/-- a value: immutable things are trees; a list that nobody changes any more is a tree, too (nlst: one that was made just now, held by nobody); what may change stands in the store -/
inductive T where
  | non | bl (b : Bool) | int (i : Int) | str (x : Str) | tup (ts : List T) | lst (ts : List T) | nlst (ts : List T) | flst (ts : List T) | ktup (ts : List T) | ref (i : Nat) | dic (kvs : List (Key × T))

/-- a thing that may change -/
inductive MO where
  | lst (ts : List T) | dK (kvs : List (Key × T)) | dT (kvs : List (List Key × T)) | ins (c : Str) (fs : List (Str × T))
abbrev Sto := List MO
abbrev Sl := List (Option T)

/-- a table of the written part with text keys -/
def KDv (K : PySem.W.Frag) (w : World) (a : Addr) (vals : List (Key × V)) : Prop :=
  ∃ es n, KDict K w a es n ∧ ∀ z : Str, (∃ v u, valV vals (.inr z) = some v ∧ PySem.W.nsIn K a z = some (some u) ∧ RelV v u) ∨ (valV vals (.inr z) = none ∧ PySem.W.nsIn K a z = some none)
def KLst (K : PySem.W.Frag) (a : Addr) (xs : List V) : Prop :=
  ∃ (o : Obj) (its : Array Value) (n : Nat), K.lookup a = some o ∧ o.cls = .type "list" ∧ o.dict = none ∧ o.data = .seq its n ∧ its.size ≤ sizeLine ∧ Vals xs its.toList
def KTup (K : PySem.W.Frag) (a : Addr) (xs : List V) : Prop :=
  ∃ (o : Obj) (its : Array Value) (n : Nat), K.lookup a = some o ∧ o.cls = .type "tuple" ∧ o.data = .seq its n ∧ its.size ≤ sizeLine ∧ Vals xs its.toList

section
variable (K : PySem.W.Frag) (w : World) (H : Hp) (ρ av : List Addr)
mutual
inductive RepV : V → T → Prop
  | non : RepV .non .non
  | bl (b : Bool) : RepV (.bl b) (.bl b)
  | int (i : Int) : RepV (.int i) (.int i)
  | str (x : Str) : RepV (.str x) (.str x)
  | tup {a vs ts} (h : H a = some (.tup vs)) (r : RepVs vs ts) : RepV (.ref a) (.tup ts)
  | tupK {a vs ts} (h : KTup K a vs) (r : RepVs vs ts) : RepV (.ref a) (.ktup ts)
  | lst {a vs ts} (h : H a = some (.lst vs)) (h1 : a ∉ ρ) (h2 : a ∉ av) (r : RepVs vs ts) : RepV (.ref a) (.lst ts)
  | flst {a vs ts} (h : (∃ o, H a = some (.frz o (.lst vs))) ∨ KLst K a vs) (r : RepVs vs ts) : RepV (.ref a) (.flst ts)
  | ref {a : Addr} {i : Nat} (h : ρ[i]? = some a) : RepV (.ref a) (.ref i)
  | dic {a kvs us} (h : Rd H a (.dK kvs)) (h1 : a ∉ ρ) (h2 : a ∉ av) (r : RepKs kvs us) : RepV (.ref a) (.dic us)
  | dicK {a kvs us} (h : KDv K w a kvs) (hx : ∀ p ∈ kvs, ∃ z, p.1 = Sum.inr z) (r : RepKs kvs us) : RepV (.ref a) (.dic us)
inductive RepVs : List V → List T → Prop
  | nil : RepVs [] []
  | cons {v t vs ts} (r : RepV v t) (rs : RepVs vs ts) : RepVs (v :: vs) (t :: ts)
inductive RepKs : List (Key × V) → List (Key × T) → Prop
  | nil : RepKs [] []
  | cons {k v t vs ts} (r : RepV v t) (rs : RepKs vs ts) : RepKs ((k, v) :: vs) ((k, t) :: ts)
end
end

def Imm : HO → Prop
  | .tup _ => True
  | .frz _ _ => True
  | _ => False

/-- from a heap and its store's addresses to later ones -/
structure Ext (H : Hp) (ρ : List Addr) (H' : Hp) (ρ' : List Addr) : Prop where
  pre : ∃ new, ρ' = ρ ++ new
  new : ∀ a ∈ ρ', a ∈ ρ ∨ H a = none
  keep : ∀ a o, a ∉ ρ → H a = some o → H' a = some o
  imm : ∀ a o, Imm o → H a = some o → H' a = some o
  dom : ∀ a, H' a = none → H a = none

theorem Ext.refl (H : Hp) (ρ : List Addr) : Ext H ρ H ρ := ⟨⟨[], by simp⟩, fun _ h => .inl h, fun _ _ _ h => h, fun _ _ _ h => h, fun _ h => h⟩
theorem Ext.trans {H H1 H2 : Hp} {ρ ρ1 ρ2 : List Addr} (a : Ext H ρ H1 ρ1) (b : Ext H1 ρ1 H2 ρ2) : Ext H ρ H2 ρ2 := by
  obtain ⟨n1, e1⟩ := a.pre
  obtain ⟨n2, e2⟩ := b.pre
  refine ⟨⟨n1 ++ n2, by rw [e2, e1, List.append_assoc]⟩, fun x hx => ?_, fun x o hx h => ?_, fun x o hi h => b.imm x o hi (a.imm x o hi h), fun x h => a.dom x (b.dom x h)⟩
  · rcases b.new x hx with h | h
    · exact a.new x h
    · exact .inr (a.dom x h)
  · refine b.keep x o (fun z => ?_) (a.keep x o hx h)
    rcases a.new x z with q | q
    · exact hx q
    · rw [q] at h; cases h

theorem Ext.rd_tup {H H' : Hp} {ρ ρ' : List Addr} (e : Ext H ρ H' ρ') {a : Addr} {vs : List V} (h : Rd H a (.tup vs)) : Rd H' a (.tup vs) := by
  rcases h with h | ⟨o, h⟩
  · exact .inl (e.imm a _ trivial h)
  · exact .inr ⟨o, e.imm a _ trivial h⟩
theorem Ext.rd {H H' : Hp} {ρ ρ' : List Addr} (e : Ext H ρ H' ρ') {a : Addr} {u : HO} (h : Rd H a u) (n : a ∉ ρ) : Rd H' a u := by
  rcases h with h | ⟨o, h⟩
  · exact .inl (e.keep a _ n h)
  · exact .inr ⟨o, e.imm a _ trivial h⟩
theorem Rd.there {H : Hp} {a : Addr} {u : HO} (h : Rd H a u) : H a ≠ none := by
  rcases h with h | ⟨o, h⟩ <;> (rw [h]; simp)
theorem Ext.notin {H H' : Hp} {ρ ρ' : List Addr} (e : Ext H ρ H' ρ') {a : Addr} (h : H a ≠ none) (n : a ∉ ρ) : a ∉ ρ' := fun z => by
  rcases e.new a z with q | q
  · exact n q
  · exact h q

section
variable {K : PySem.W.Frag} {w : World} {H H' : Hp} {ρ ρ' av av' : List Addr}
mutual
theorem RepV.ext (e : Ext H ρ H' ρ') : ∀ {v : V} {t : T}, RepV K w H ρ av v t → RepV K w H' ρ' av v t
  | _, _, .non => .non
  | _, _, .bl b => .bl b
  | _, _, .int b => .int b
  | _, _, .str b => .str b
  | _, _, .tup h r => .tup (e.imm _ _ trivial h) (RepVs.ext e r)
  | _, _, .tupK h r => .tupK h (RepVs.ext e r)
  | _, _, .lst h h1 h2 r => .lst (e.keep _ _ h1 h) (e.notin (by rw [h]; simp) h1) h2 (RepVs.ext e r)
  | _, _, .flst h r => .flst (h.imp (fun ⟨o, q⟩ => ⟨o, e.imm _ _ trivial q⟩) id) (RepVs.ext e r)
  | _, _, .ref h => .ref (by
      obtain ⟨n, q⟩ := e.pre
      rw [q, List.getElem?_append_left]
      · exact h
      · exact (List.getElem?_eq_some_iff.mp h).1)
  | _, _, .dic h h1 h2 r => .dic (e.rd h h1) (e.notin (Rd.there h) h1) h2 (RepKs.ext e r)
  | _, _, .dicK h hx r => .dicK h hx (RepKs.ext e r)
theorem RepVs.ext (e : Ext H ρ H' ρ') : ∀ {v : List V} {t : List T}, RepVs K w H ρ av v t → RepVs K w H' ρ' av v t
  | _, _, .nil => .nil
  | _, _, .cons r rs => .cons (RepV.ext e r) (RepVs.ext e rs)
theorem RepKs.ext (e : Ext H ρ H' ρ') : ∀ {v : List (Key × V)} {t : List (Key × T)}, RepKs K w H ρ av v t → RepKs K w H' ρ' av v t
  | _, _, .nil => .nil
  | _, _, .cons r rs => .cons (RepV.ext e r) (RepKs.ext e rs)
end
mutual
/-- fewer things to be avoided -/
theorem RepV.less (s : ∀ a ∈ av', a ∈ av) : ∀ {v : V} {t : T}, RepV K w H ρ av v t → RepV K w H ρ av' v t
  | _, _, .non => .non
  | _, _, .bl b => .bl b
  | _, _, .int b => .int b
  | _, _, .str b => .str b
  | _, _, .tup h r => .tup h (RepVs.less s r)
  | _, _, .tupK h r => .tupK h (RepVs.less s r)
  | _, _, .lst h h1 h2 r => .lst h h1 (fun z => h2 (s _ z)) (RepVs.less s r)
  | _, _, .flst h r => .flst h (RepVs.less s r)
  | _, _, .ref h => .ref h
  | _, _, .dic h h1 h2 r => .dic h h1 (fun z => h2 (s _ z)) (RepKs.less s r)
  | _, _, .dicK h hx r => .dicK h hx (RepKs.less s r)
theorem RepVs.less (s : ∀ a ∈ av', a ∈ av) : ∀ {v : List V} {t : List T}, RepVs K w H ρ av v t → RepVs K w H ρ av' v t
  | _, _, .nil => .nil
  | _, _, .cons r rs => .cons (RepV.less s r) (RepVs.less s rs)
theorem RepKs.less (s : ∀ a ∈ av', a ∈ av) : ∀ {v : List (Key × V)} {t : List (Key × T)}, RepKs K w H ρ av v t → RepKs K w H ρ av' v t
  | _, _, .nil => .nil
  | _, _, .cons r rs => .cons (RepV.less s r) (RepKs.less s rs)
end
mutual
/-- an address that is not there as yet may be avoided -/
theorem RepV.more {p : Addr} (hp : H p = none) : ∀ {v : V} {t : T}, RepV K w H ρ av v t → RepV K w H ρ (p :: av) v t
  | _, _, .non => .non
  | _, _, .bl b => .bl b
  | _, _, .int b => .int b
  | _, _, .str b => .str b
  | _, _, .tup h r => .tup h (RepVs.more hp r)
  | _, _, .tupK h r => .tupK h (RepVs.more hp r)
  | _, _, .lst h h1 h2 r => .lst h h1 (fun z => by
      rcases List.mem_cons.mp z with z | z
      · subst z; rw [hp] at h; cases h
      · exact h2 z) (RepVs.more hp r)
  | _, _, .flst h r => .flst h (RepVs.more hp r)
  | _, _, .ref h => .ref h
  | _, _, .dic h h1 h2 r => .dic h h1 (fun z => by
      rcases List.mem_cons.mp z with z | z
      · subst z; exact Rd.there h hp
      · exact h2 z) (RepKs.more hp r)
  | _, _, .dicK h hx r => .dicK h hx (RepKs.more hp r)
theorem RepVs.more {p : Addr} (hp : H p = none) : ∀ {v : List V} {t : List T}, RepVs K w H ρ av v t → RepVs K w H ρ (p :: av) v t
  | _, _, .nil => .nil
  | _, _, .cons r rs => .cons (RepV.more hp r) (RepVs.more hp rs)
theorem RepKs.more {p : Addr} (hp : H p = none) : ∀ {v : List (Key × V)} {t : List (Key × T)}, RepKs K w H ρ av v t → RepKs K w H ρ (p :: av) v t
  | _, _, .nil => .nil
  | _, _, .cons r rs => .cons (RepV.more hp r) (RepKs.more hp rs)
end
end
end Dn

namespace Dn
open PySem PySem.Spec L2

/-! ### results, stores -/
abbrev Flds := List (Str × T)
/-- the exception that an except suite handles: its slot, address, dict, class by name, fields -/
structure Pin where
  i : Nat
  a : Addr
  d : Addr
  c : Str
  vs : List (Str × V)
  fs : Flds
structure DX extends Cx where
  pin : Option Pin
instance : Coe DX Cx := ⟨DX.toCx⟩
inductive RE where
  | ok (t : T) (S : Sto) | exc (c : Str) (fs : Flds) (S : Sto) | bad
inductive RS where
  | nx (sl : Sl) (S : Sto) | rt (t : T) (S : Sto) | bk (sl : Sl) (S : Sto) | ct (sl : Sl) (S : Sto) | exc (c : Str) (fs : Flds) (sl : Sl) (S : Sto) | bad
abbrev DE := Sl → Sto → RE
abbrev DS := Sl → Sto → RS
abbrev DF := List T → Sto → RE
def fz : T → T
  | .nlst ts => .lst ts
  | t => t
def RE.bind (r : RE) (f : T → Sto → RE) : RE := match r with
  | .ok t S => f t S
  | .exc c fs S => .exc c fs S
  | .bad => .bad

section
variable (K : PySem.W.Frag) (w : World) (H : Hp) (ρ av : List Addr)
def RepKd {κ : Type} (vs : List (κ × V)) (ts : List (κ × T)) : Prop := Paired (fun (p : κ × V) (q : κ × T) => p.1 = q.1 ∧ RepV K w H ρ av p.2 q.2) vs ts
def RepO (a : Addr) : MO → Prop
  | .lst ts => ∃ vs, H a = some (.lst vs) ∧ RepVs K w H ρ av vs ts
  | .dK kvs => ∃ vs, H a = some (.dK vs) ∧ RepKd K w H ρ av vs kvs
  | .dT kvs => ∃ vs, H a = some (.dT vs) ∧ RepKd K w H ρ av vs kvs
  | .ins c fs => False
structure RepS (S : Sto) : Prop where
  len : ρ.length = S.length
  nd : ρ.Nodup
  obj : ∀ (i : Nat) (a : Addr) (o : MO), ρ[i]? = some a → S[i]? = some o → RepO K w H ρ av a o
  out : ∀ a ∈ av, H a ≠ none ∧ a ∉ ρ
structure RepE (pn : Option Pin) (H : Hp) (ρ av : List Addr) (σ : St) (sl : Sl) : Prop where
  len : σ.length = sl.length
  at_ : ∀ (i : Nat) (t : T), sl[i]? = some (some t) → ∃ v, σ[i]? = some (some v) ∧ RepV K w H ρ av v t
  pin : ∀ p, pn = some p → H p.d = some (.xd p.vs) ∧ p.d ∉ ρ ∧ p.d ∉ av ∧ RepKd K w H ρ av p.vs p.fs ∧ (sl[p.i]? = some none → σ[p.i]? = some (some (.ref p.a)))
/-- a value that was told just now, the heap ahead being H0 -/
def RepR (H0 : Hp) (v : V) : T → Prop
  | .nlst ts => ∃ a vs, v = .ref a ∧ H0 a = none ∧ H a = some (.lst vs) ∧ a ∉ ρ ∧ a ∉ av ∧ RepVs K w H ρ (a :: av) vs ts
  | t => RepV K w H ρ av v t
/-- an exception: its class by name, its fields -/
def RepX (mg : Str → Option Value) (cls : Value) (dd : Option Addr) (c : Str) (fs : Flds) : Prop :=
  ∃ C, mg c = some (.ref C) ∧ cls = .ref C ∧ ∃ d vs, dd = some d ∧ H d = some (.xd vs) ∧ d ∉ ρ ∧ d ∉ av ∧ Paired (fun (p : Str × V) (q : Str × T) => p.1 = q.1 ∧ RepV K w H ρ av p.2 q.2) vs fs
end

section
variable {K : PySem.W.Frag} {w : World} {H H' H0 : Hp} {ρ ρ' av av' : List Addr}
theorem Paired.mono {α β : Type} {F G : α → β → Prop} (h : ∀ a b, F a b → G a b) : ∀ {xs : List α} {ys : List β}, Paired F xs ys → Paired G xs ys
  | _, _, .nil => .nil
  | _, _, .cons r rs => .cons (h _ _ r) (Paired.mono h rs)
theorem RepKd.ext {κ : Type} {vs : List (κ × V)} {ts : List (κ × T)} (e : Ext H ρ H' ρ') (r : RepKd K w H ρ av vs ts) : RepKd K w H' ρ' av vs ts :=
  Paired.mono (fun _ _ h => ⟨h.1, h.2.ext e⟩) r
theorem RepE.ext {pn : Option Pin} {σ : St} {sl : Sl} (e : Ext H ρ H' ρ') (r : RepE K w pn H ρ av σ sl) : RepE K w pn H' ρ' av σ sl :=
  ⟨r.len, fun i t h => let ⟨v, h1, h2⟩ := r.at_ i t h; ⟨v, h1, h2.ext e⟩, fun p hp => let ⟨h1, h2, h3, h4, h5⟩ := r.pin p hp; ⟨e.keep _ _ h2 h1, e.notin (by rw [h1]; simp) h2, h3, h4.ext e, h5⟩⟩
theorem RepE.to {pn : Option Pin} {σ : St} {sl : Sl} (he : RepE K w pn H ρ av σ sl) (f : ∀ {v : V} {t : T}, RepV K w H ρ av v t → RepV K w H' ρ' av' v t) (k : ∀ d vs, H d = some (.xd vs) → d ∉ ρ → d ∉ av → H' d = some (.xd vs) ∧ d ∉ ρ' ∧ d ∉ av') : RepE K w pn H' ρ' av' σ sl :=
  ⟨he.len, fun i t h => let ⟨v, h1, h2⟩ := he.at_ i t h; ⟨v, h1, f h2⟩, fun p hp => let ⟨h1, h2, h3, h4, h5⟩ := he.pin p hp; let ⟨k1, k2, k3⟩ := k _ _ h1 h2 h3; ⟨k1, k2, k3, Paired.mono (fun _ _ h => ⟨h.1, f h.2⟩) h4, h5⟩⟩
theorem RepVs.length {vs : List V} {ts : List T} : RepVs K w H ρ av vs ts → vs.length = ts.length
  | .nil => rfl
  | .cons _ rs => by simp [RepVs.length rs]
theorem RepVs.append : ∀ {vs vs' : List V} {ts ts' : List T}, RepVs K w H ρ av vs ts → RepVs K w H ρ av vs' ts' → RepVs K w H ρ av (vs ++ vs') (ts ++ ts')
  | _, _, _, _, .nil, s => s
  | _, _, _, _, .cons r rs, s => .cons r (RepVs.append rs s)
theorem RepVs.get : ∀ {vs : List V} {ts : List T} {i : Nat} {t : T}, RepVs K w H ρ av vs ts → ts[i]? = some t → ∃ v, vs[i]? = some v ∧ RepV K w H ρ av v t
  | _, _, _, _, .nil, h => by simp at h
  | _, _, 0, _, .cons r rs, h => by
    simp at h; subst h; exact ⟨_, rfl, r⟩
  | _, _, i + 1, t, .cons r rs, h => by
    obtain ⟨v, h1, h2⟩ := RepVs.get (i := i) (t := t) rs (by simpa using h)
    exact ⟨v, by simpa using h1, h2⟩
theorem RepVs.getV : ∀ {vs : List V} {ts : List T} {i : Nat} {v : V}, RepVs K w H ρ av vs ts → vs[i]? = some v → ∃ t, ts[i]? = some t ∧ RepV K w H ρ av v t
  | _, _, _, _, .nil, h => by simp at h
  | _, _, 0, _, .cons r rs, h => by
    simp at h; subst h; exact ⟨_, rfl, r⟩
  | _, _, i + 1, t, .cons r rs, h => by
    obtain ⟨v, h1, h2⟩ := RepVs.getV (i := i) (v := t) rs (by simpa using h)
    exact ⟨v, by simpa using h1, h2⟩
theorem RepVs.set {v : V} {t : T} (r : RepV K w H ρ av v t) : ∀ {vs : List V} {ts : List T} (i : Nat), RepVs K w H ρ av vs ts → RepVs K w H ρ av (vs.set i v) (ts.set i t)
  | _, _, _, .nil => .nil
  | _, _, 0, .cons _ rs => .cons r rs
  | _, _, i + 1, .cons q rs => .cons q (RepVs.set r i rs)
theorem RepVs.take : ∀ {vs : List V} {ts : List T} (n : Nat), RepVs K w H ρ av vs ts → RepVs K w H ρ av (vs.take n) (ts.take n)
  | _, _, 0, _ => .nil
  | _, _, _ + 1, .nil => .nil
  | _, _, n + 1, .cons r rs => .cons r (RepVs.take n rs)
theorem RepVs.drop : ∀ {vs : List V} {ts : List T} (n : Nat), RepVs K w H ρ av vs ts → RepVs K w H ρ av (vs.drop n) (ts.drop n)
  | _, _, 0, r => r
  | _, _, _ + 1, .nil => .nil
  | _, _, n + 1, .cons _ rs => RepVs.drop n rs
theorem RepVs.eraseIdx : ∀ {vs : List V} {ts : List T} (n : Nat), RepVs K w H ρ av vs ts → RepVs K w H ρ av (vs.eraseIdx n) (ts.eraseIdx n)
  | _, _, _, .nil => .nil
  | _, _, 0, .cons _ rs => rs
  | _, _, n + 1, .cons r rs => .cons r (RepVs.eraseIdx n rs)
theorem RepVs.reverse {vs : List V} {ts : List T} (r : RepVs K w H ρ av vs ts) : RepVs K w H ρ av vs.reverse ts.reverse := by
  have go : ∀ {vs : List V} {ts : List T}, RepVs K w H ρ av vs ts → ∀ {us : List V} {qs : List T}, RepVs K w H ρ av us qs → RepVs K w H ρ av (vs.reverseAux us) (ts.reverseAux qs) := by
    intro vs
    induction vs with
    | nil => intro ts h us qs s; cases h; exact s
    | cons v vs ih => intro ts h us qs s; cases h with | cons r rs => exact ih rs (.cons r s)
  exact go r .nil
theorem RepR.toV {v : V} {t : T} (r : RepR K w H ρ av H0 v t) : RepV K w H ρ av v (fz t) := by
  cases t with
  | nlst ts =>
    obtain ⟨a, vs, rfl, _, h1, h2, h3, h4⟩ := r
    exact .lst h1 h2 h3 (h4.less fun _ z => List.mem_cons_of_mem _ z)
  | _ => exact r
theorem RepV.noN {v : V} {ts : List T} : ¬ RepV K w H ρ av v (.nlst ts) := fun h => nomatch h
theorem RepV.fz {v : V} {t : T} (r : RepV K w H ρ av v t) : Dn.fz t = t := by cases r <;> rfl
theorem RepV.toR {v : V} {t : T} (r : RepV K w H ρ av v t) : RepR K w H ρ av H0 v t := by
  cases t with
  | nlst ts => exact absurd r RepV.noN
  | _ => exact r
/-- fresh to a later heap is fresh to an earlier one -/
theorem RepR.back {H1 : Hp} {ρ1 ρ2 : List Addr} {v : V} {t : T} (e : Ext H0 ρ1 H1 ρ2) (r : RepR K w H ρ av H1 v t) : RepR K w H ρ av H0 v t := by
  cases t with
  | nlst ts =>
    obtain ⟨a, vs, rfl, h0, h1⟩ := r
    exact ⟨a, vs, rfl, e.dom a h0, h1⟩
  | _ => exact r
theorem RepS.of_ref {S : Sto} (s : RepS K w H ρ av S) {i : Nat} {a : Addr} (h : ρ[i]? = some a) : ∃ o, S[i]? = some o ∧ RepO K w H ρ av a o := by
  have hi : i < S.length := by rw [← s.len]; exact (List.getElem?_eq_some_iff.mp h).1
  exact ⟨S[i], List.getElem?_eq_getElem hi, s.obj i a _ h (List.getElem?_eq_getElem hi)⟩
theorem RepO.there {a : Addr} {o : MO} (h : RepO K w H ρ av a o) : ∃ u, H a = some u ∧ ¬ Imm u := by
  cases o with
  | lst ts => obtain ⟨vs, h, _⟩ := h; exact ⟨_, h, fun z => z⟩
  | dK ts => obtain ⟨vs, h, _⟩ := h; exact ⟨_, h, fun z => z⟩
  | dT ts => obtain ⟨vs, h, _⟩ := h; exact ⟨_, h, fun z => z⟩
  | ins c fs => exact h.elim
theorem RepS.there {S : Sto} (s : RepS K w H ρ av S) {a : Addr} (h : a ∈ ρ) : ∃ u, H a = some u ∧ ¬ Imm u := by
  obtain ⟨i, hi⟩ := List.mem_iff_getElem?.mp h
  obtain ⟨o, _, r⟩ := s.of_ref hi
  exact r.there
/-- a new object that is no part of the store -/
theorem Ext.laid {S : Sto} (s : RepS K w H ρ av S) {p : Addr} (hp : H p = none) (o : HO) : Ext H ρ (upd H p o) ρ := by
  have ne : ∀ a u, H a = some u → a ≠ p := fun a u h z => by rw [z, hp] at h; cases h
  exact ⟨⟨[], by simp⟩, fun _ h => .inl h, fun a u _ h => by rw [upd_ne (ne a u h)]; exact h, fun a u _ h => by rw [upd_ne (ne a u h)]; exact h, fun a h => by
    by_cases e : a = p
    · rw [e]; exact hp
    · rw [upd_ne e] at h; exact h⟩
theorem RepO.ext {a : Addr} {o : MO} (e : Ext H ρ H' ρ') (ha : ∀ u, H a = some u → ¬ Imm u → H' a = some u) (h : RepO K w H ρ av a o) : RepO K w H' ρ' av a o := by
  cases o with
  | lst ts => obtain ⟨vs, h1, h2⟩ := h; exact ⟨vs, ha _ h1 (fun z => z), h2.ext e⟩
  | dK ts => obtain ⟨vs, h1, h2⟩ := h; exact ⟨vs, ha _ h1 (fun z => z), h2.ext e⟩
  | dT ts => obtain ⟨vs, h1, h2⟩ := h; exact ⟨vs, ha _ h1 (fun z => z), h2.ext e⟩
  | ins c fs => exact h
theorem RepS.laid {S : Sto} (s : RepS K w H ρ av S) {p : Addr} (hp : H p = none) (o : HO) : RepS K w (upd H p o) ρ av S := by
  have e := Ext.laid s hp o
  have ne : ∀ a u, H a = some u → a ≠ p := fun a u h z => by rw [z, hp] at h; cases h
  refine ⟨s.len, s.nd, fun i a ob h1 h2 => (s.obj i a ob h1 h2).ext e fun u h _ => by rw [upd_ne (ne a u h)]; exact h, fun a ha => ?_⟩
  obtain ⟨h1, h2⟩ := s.out a ha
  exact ⟨fun z => h1 (e.dom a z), h2⟩
/-- a new object becomes part of the store -/
theorem Ext.grow {S : Sto} (s : RepS K w H ρ av S) {p : Addr} (h0 : H0 p = none) (e : Ext H0 ρ H ρ) : Ext H0 ρ H (ρ ++ [p]) :=
  ⟨⟨[p], rfl⟩, fun a h => by
    rcases List.mem_append.mp h with h | h
    · exact .inl h
    · rw [List.mem_singleton.mp h]; exact .inr h0, e.keep, e.imm, e.dom⟩
/-- an object of the store is written -/
theorem Ext.write {S : Sto} (s : RepS K w H ρ av S) {i : Nat} {a : Addr} (h : ρ[i]? = some a) (o : HO) : Ext H ρ (upd H a o) ρ := by
  have hm : a ∈ ρ := List.mem_of_getElem? h
  obtain ⟨u, hu, ni⟩ := s.there hm
  refine ⟨⟨[], by simp⟩, fun _ h => .inl h, fun b v hb hv => ?_, fun b v hi hv => ?_, fun b hb => ?_⟩
  · rw [upd_ne (fun z => hb (by rw [z]; exact hm))]; exact hv
  · rw [upd_ne (fun z => by rw [z, hu] at hv; cases hv; exact ni hi)]; exact hv
  · by_cases z : b = a
    · rw [z, upd_same] at hb; cases hb
    · rw [upd_ne z] at hb; exact hb
theorem RepS.write {S : Sto} (s : RepS K w H ρ av S) {i : Nat} {a : Addr} (h : ρ[i]? = some a) {u : HO} {o : MO} (r : RepO K w (upd H a u) ρ av a o) : RepS K w (upd H a u) ρ av (S.set i o) := by
  have e := Ext.write s h u
  refine ⟨by rw [List.length_set]; exact s.len, s.nd, fun j b ob h1 h2 => ?_, fun b hb => ?_⟩
  · by_cases hj : j = i
    · subst hj
      rw [h] at h1; cases h1
      have hl : j < S.length := by rw [← s.len]; exact (List.getElem?_eq_some_iff.mp h).1
      rw [List.getElem?_set_self hl] at h2
      cases h2
      exact r
    · rw [List.getElem?_set_ne (Ne.symm hj)] at h2
      refine (s.obj j b ob h1 h2).ext e fun v hv _ => ?_
      rw [upd_ne (fun z => hj ?_)]
      · exact hv
      · subst z
        obtain ⟨l1, e1⟩ := List.getElem?_eq_some_iff.mp h1
        obtain ⟨l2, e2⟩ := List.getElem?_eq_some_iff.mp h
        exact (List.getElem_inj s.nd).mp (e1.trans e2.symm)
  · obtain ⟨h1, h2⟩ := s.out b hb
    exact ⟨fun z => h1 (e.dom b z), h2⟩
end

/-- what is to be avoided besides: a list made just now -/
def avN (v : V) (t : T) (av : List Addr) : List Addr := match t with
  | .nlst _ => (match v with
    | .ref a => a :: av
    | _ => av)
  | _ => av
section
variable {K : PySem.W.Frag} {w : World} {H H' H0 : Hp} {ρ ρ' av av' : List Addr}
theorem RepO.less (s : ∀ a ∈ av', a ∈ av) {a : Addr} {o : MO} (h : RepO K w H ρ av a o) : RepO K w H ρ av' a o := by
  cases o with
  | lst ts => obtain ⟨vs, h1, h2⟩ := h; exact ⟨vs, h1, h2.less s⟩
  | dK ts => obtain ⟨vs, h1, h2⟩ := h; exact ⟨vs, h1, Paired.mono (fun _ _ h => ⟨h.1, h.2.less s⟩) h2⟩
  | dT ts => obtain ⟨vs, h1, h2⟩ := h; exact ⟨vs, h1, Paired.mono (fun _ _ h => ⟨h.1, h.2.less s⟩) h2⟩
  | ins c fs => exact h
theorem RepO.more {p : Addr} (hp : H p = none) {a : Addr} {o : MO} (h : RepO K w H ρ av a o) : RepO K w H ρ (p :: av) a o := by
  cases o with
  | lst ts => obtain ⟨vs, h1, h2⟩ := h; exact ⟨vs, h1, h2.more hp⟩
  | dK ts => obtain ⟨vs, h1, h2⟩ := h; exact ⟨vs, h1, Paired.mono (fun _ _ h => ⟨h.1, h.2.more hp⟩) h2⟩
  | dT ts => obtain ⟨vs, h1, h2⟩ := h; exact ⟨vs, h1, Paired.mono (fun _ _ h => ⟨h.1, h.2.more hp⟩) h2⟩
  | ins c fs => exact h
theorem RepS.less {S : Sto} (s : ∀ a ∈ av', a ∈ av) (h : RepS K w H ρ av S) : RepS K w H ρ av' S := ⟨h.len, h.nd, fun i a o h1 h2 => (h.obj i a o h1 h2).less s, fun a ha => h.out a (s a ha)⟩
theorem avN_sub {v : V} {t : T} : ∀ a ∈ av, a ∈ avN v t av := fun a h => by
  unfold avN
  split
  · split
    · exact List.mem_cons_of_mem _ h
    · exact h
  · exact h
theorem RepS.ofN {S : Sto} {v : V} {t : T} (h : RepS K w H ρ (avN v t av) S) : RepS K w H ρ av S := h.less avN_sub
theorem RepV.avN {v : V} {t : T} (r : RepV K w H ρ av v t) : Dn.avN v t av = av := by cases r <;> rfl
theorem RepS.laidN {S : Sto} (s : RepS K w H ρ av S) {p : Addr} (hp : H p = none) (o : HO) : RepS K w (upd H p o) ρ (p :: av) S := by
  have e := Ext.laid s hp o
  have ne : ∀ a u, H a = some u → a ≠ p := fun a u h z => by rw [z, hp] at h; cases h
  refine ⟨s.len, s.nd, fun i a ob h1 h2 => ((s.obj i a ob h1 h2).more hp).ext e fun u h _ => by rw [upd_ne (ne a u h)]; exact h, fun a ha => ?_⟩
  rcases List.mem_cons.mp ha with rfl | ha
  · exact ⟨by rw [upd_same]; simp, fun z => by obtain ⟨u, hu, _⟩ := s.there z; rw [hp] at hu; cases hu⟩
  · obtain ⟨h1, h2⟩ := s.out a ha
    exact ⟨fun z => h1 (e.dom a z), h2⟩
end

/-! ### the readings of results -/
section
variable (X : DX) (W : WX)
/-- what is asked of a result -/
def GoodE (σ : St) (H : Hp) (ρ av : List Addr) (Q : VK) : RE → Prop
  | .ok t S' => ∀ v H' ρ', Ext H ρ H' ρ' → RepS X.K X.w H' ρ' (avN v t av) S' → RepR X.K X.w H' ρ' av H v t → Q v H'
  | .exc c fs S' => ∀ cls dd H' ρ', Ext H ρ H' ρ' → RepS X.K X.w H' ρ' av S' → RepX X.K X.w H' ρ' av X.mg cls dd c fs → W cls dd σ H'
  | .bad => False
def GoodS (H : Hp) (ρ av : List Addr) (n : Nat) (D : Ends) : RS → Prop
  | .nx sl S' => ∀ σ' H' ρ', Ext H ρ H' ρ' → RepS X.K X.w H' ρ' av S' → RepE X.K X.w X.pin H' ρ' av σ' sl → σ'.length = n → D.nx σ' H'
  | .bk sl S' => ∀ σ' H' ρ', Ext H ρ H' ρ' → RepS X.K X.w H' ρ' av S' → RepE X.K X.w X.pin H' ρ' av σ' sl → σ'.length = n → D.bk σ' H'
  | .ct sl S' => ∀ σ' H' ρ', Ext H ρ H' ρ' → RepS X.K X.w H' ρ' av S' → RepE X.K X.w X.pin H' ρ' av σ' sl → σ'.length = n → D.ct σ' H'
  | .rt t S' => ∀ v H' ρ', Ext H ρ H' ρ' → RepS X.K X.w H' ρ' (avN v t av) S' → RepR X.K X.w H' ρ' av H v t → D.rt v H'
  | .exc c fs sl S' => ∀ cls dd σ' H' ρ', Ext H ρ H' ρ' → RepS X.K X.w H' ρ' av S' → RepE X.K X.w X.pin H' ρ' av σ' sl → σ'.length = n → RepX X.K X.w H' ρ' av X.mg cls dd c fs → W cls dd σ' H'
  | .bad => False
def liftE (d : DE) : TE := fun σ H Q => ∃ ρ av sl S, RepS X.K X.w H ρ av S ∧ RepE X.K X.w X.pin H ρ av σ sl ∧ GoodE X W σ H ρ av Q (d sl S)
def liftS (d : DS) : TS := fun D σ H => ∃ ρ av sl S, RepS X.K X.w H ρ av S ∧ RepE X.K X.w X.pin H ρ av σ sl ∧ GoodS X W H ρ av σ.length D (d sl S)
/-- arguments: a list of values, all frozen -/
inductive RA where
  | ok (ts : List T) (S : Sto) | exc (c : Str) (fs : Flds) (S : Sto) | bad
def GoodA (σ : St) (H : Hp) (ρ av : List Addr) (Q : List V → Hp → Prop) : RA → Prop
  | .ok ts S' => ∀ vs H' ρ', Ext H ρ H' ρ' → RepS X.K X.w H' ρ' av S' → RepVs X.K X.w H' ρ' av vs ts → Q vs H'
  | .exc c fs S' => ∀ cls dd H' ρ', Ext H ρ H' ρ' → RepS X.K X.w H' ρ' av S' → RepX X.K X.w H' ρ' av X.mg cls dd c fs → W cls dd σ H'
  | .bad => False
abbrev DA := Sl → Sto → RA
def liftA (d : DA) : TA := fun σ H Q => ∃ ρ av sl S, RepS X.K X.w H ρ av S ∧ RepE X.K X.w X.pin H ρ av σ sl ∧ GoodA X W σ H ρ av Q (d sl S)
/-- tests -/
inductive RB where
  | ok (b : Bool) (S : Sto) | exc (c : Str) (fs : Flds) (S : Sto) | bad
def GoodB (σ : St) (H : Hp) (ρ av : List Addr) (Q : Bool → Hp → Prop) : RB → Prop
  | .ok b S' => ∀ H' ρ', Ext H ρ H' ρ' → RepS X.K X.w H' ρ' av S' → Q b H'
  | .exc c fs S' => ∀ cls dd H' ρ', Ext H ρ H' ρ' → RepS X.K X.w H' ρ' av S' → RepX X.K X.w H' ρ' av X.mg cls dd c fs → W cls dd σ H'
  | .bad => False
abbrev DB := Sl → Sto → RB
def liftB (d : DB) : TT := fun σ H Q => ∃ ρ av sl S, RepS X.K X.w H ρ av S ∧ RepE X.K X.w X.pin H ρ av σ sl ∧ GoodB X W σ H ρ av Q (d sl S)
end
abbrev LE (X : DX) (W : WX) (e : Expr) (d : DE) : Prop := PE X e (liftE X W d)
abbrev LS (X : DX) (W : WX) (st : Stmt) (d : DS) : Prop := PS X st (liftS X W d)
abbrev LSs (X : DX) (W : WX) (sts : List Stmt) (d : DS) : Prop := PSs X sts (liftS X W d)
abbrev LA (X : DX) (W : WX) (es : List Expr) (d : DA) : Prop := PA X es (liftA X W d)
abbrev LT (X : DX) (W : WX) (e : Expr) (d : DB) : Prop := PT X e (liftB X W d)

theorem _root_.L2.PE.imp {X : Cx} {e : Expr} {t t' : TE} (h : PE X e t) (f : ∀ σ H Q, t' σ H Q → t σ H Q) : PE X e t' := ⟨fun pins s σ H Q I q => h.run pins s σ H Q I (f σ H Q q)⟩
theorem _root_.L2.PT.imp {X : Cx} {e : Expr} {t t' : TT} (h : PT X e t) (f : ∀ σ H Q, t' σ H Q → t σ H Q) : PT X e t' := ⟨fun pins s σ H Q I q => h.run pins s σ H Q I (f σ H Q q)⟩
theorem _root_.L2.PW.imp {X : Cx} {e : Expr} {t t' : TT} (h : PW X e t) (f : ∀ σ H Q, t' σ H Q → t σ H Q) : PW X e t' := ⟨fun wh pins s σ H Q I q => h.run wh pins s σ H Q I (f σ H Q q)⟩
theorem _root_.L2.PA.imp {X : Cx} {e : List Expr} {t t' : TA} (h : PA X e t) (f : ∀ σ H Q, t' σ H Q → t σ H Q) : PA X e t' := ⟨fun pos pins s σ H Q I q => h.run pos pins s σ H Q I (f σ H Q q)⟩
theorem _root_.L2.PS.imp {X : Cx} {e : Stmt} {t t' : TS} (h : PS X e t) (f : ∀ D σ H, t' D σ H → t D σ H) : PS X e t' := ⟨fun pins s σ H D I q => h.run pins s σ H D I (f D σ H q)⟩
theorem _root_.L2.PSs.imp {X : Cx} {e : List Stmt} {t t' : TS} (h : PSs X e t) (f : ∀ D σ H, t' D σ H → t D σ H) : PSs X e t' := ⟨fun pins s σ H D I q => h.run pins s σ H D I (f D σ H q)⟩

section
variable {X : DX} {W : WX} {σ : St} {H H1 : Hp} {ρ ρ1 av : List Addr} {sl : Sl} {S S1 : Sto}
theorem GoodE.mono {Q Q' : VK} {r : RE} (h : ∀ v H', Q v H' → Q' v H') (g : GoodE X W σ H ρ av Q r) : GoodE X W σ H ρ av Q' r := by
  cases r with
  | ok t S' => exact fun v H' ρ' e s r => h _ _ (g v H' ρ' e s r)
  | exc c fs S' => exact g
  | bad => exact g
/-- one part ahead: the rest from there -/
theorem GoodE.step {Q : VK} {r : RE} {f : T → Sto → RE} {Q1 : VK} (g : GoodE X W σ H ρ av Q (r.bind f))
    (h : ∀ t S1, r = .ok t S1 → ∀ v H1 ρ1, Ext H ρ H1 ρ1 → RepS X.K X.w H1 ρ1 av S1 → RepR X.K X.w H1 ρ1 av H v t → GoodE X W σ H1 ρ1 av Q (f t S1) → Q1 v H1) : GoodE X W σ H ρ av Q1 r := by
  cases r with
  | ok t S1 =>
    intro v H1 ρ1 e s rr
    refine h t S1 rfl v H1 ρ1 e s.ofN rr ?_
    have g' : GoodE X W σ H ρ av Q (f t S1) := g
    revert g'
    cases f t S1 with
    | ok t2 S2 => exact fun g' v2 H2 ρ2 e2 s2 r2 => g' v2 H2 ρ2 (e.trans e2) s2 (r2.back e)
    | exc c fs S2 => exact fun g' cls dd H2 ρ2 e2 s2 r2 => g' cls dd H2 ρ2 (e.trans e2) s2 r2
    | bad => exact fun g' => g'
  | exc c fs S1 => exact g
  | bad => exact g.elim
end
end Dn

/-! text * int, tuple * 1 -/
namespace Dn
open PySem PySem.Spec PyProof.Rows L2
def repS (z : Str) (n : Nat) : Str := ⟨(List.replicate n z.cps.toList).flatten.toArray⟩
theorem repS_fold (z : Str) (n : Nat) : (⟨(List.replicate n z.cps).foldl (· ++ ·) #[]⟩ : Str) = repS z n := by
  have go : ∀ (n : Nat) (acc : Array Nat), ((List.replicate n z.cps).foldl (· ++ ·) acc).toList = acc.toList ++ (List.replicate n z.cps.toList).flatten := by
    intro n
    induction n with
    | zero => intro acc; simp
    | succ n ih => intro acc; rw [List.replicate_succ, List.foldl_cons, ih, List.replicate_succ, List.flatten_cons]; simp
  unfold repS
  congr 1
  apply Array.ext'
  rw [go]
  simp
theorem repS_len (z : Str) (n : Nat) : (repS z n).length = z.length * n := by
  show ((List.replicate n z.cps.toList).flatten.toArray).size = _
  rw [List.size_toArray, List.length_flatten, List.map_replicate, List.sum_replicate_nat]
  show n * z.cps.toList.length = z.cps.size * n
  rw [Array.length_toList, Nat.mul_comm]
def rRepS : R2 := fun x y H Q => ∃ z k, x = .str z ∧ y = .int k ∧ -(2 ^ 63) ≤ k ∧ k < 2 ^ 63 ∧ z.length * k.toNat ≤ 16777216 ∧ Q (.str (repS z k.toNat)) H
theorem op_repS {X : Cx} : OpR X (binaryOp .Mult) rRepS := by
  intro pins s σ H x y v u Q I rx ry ⟨z, k, ex, ey, h1, h2, h3, q⟩
  subst ex ey
  obtain ⟨t, rfl⟩ := rx
  obtain ⟨t2, rfl⟩ := ry
  have hz := PySem.sizeLine_eq
  have hsz : z.length * k.toNat ≤ sizeLine := by omega
  refine P.mul_str (by rw [decide_eq_false (by omega), decide_eq_false (by omega)]; rfl) (fun k1 k2 => ?_) (fun k1 k2 => ?_) ?_
  · have : (z.length : Int) ≤ (2 ^ 63 - 1) / k := by
      rw [Int.le_ediv_iff_mul_le (by omega)]
      have e : ((z.length * k.toNat : Nat) : Int) = (z.length : Int) * k := by rw [Int.natCast_mul, Int.toNat_of_nonneg (by omega)]
      rw [← e]; omega
    omega
  · unfold Builtin.Str.tooLong
    exact decide_eq_false (by omega)
  · split
    · rename_i k1
      have e : k.toNat = 0 := by omega
      rw [e] at q
      exact ⟨by decide, .str (repS z 0), H, I.tok _, ⟨s.toks, rfl⟩, q⟩
    · rename_i k1
      split
      · rename_i k2
        have e : repS z k.toNat = z := by
          rw [Bool.or_eq_true, beq_iff_eq, beq_iff_eq] at k2
          rcases k2 with rfl | k2
          · simp [repS]
          · obtain ⟨⟨cs⟩⟩ := z
            have : cs = [] := List.eq_nil_of_length_eq_zero k2
            subst this
            simp [repS]
        rw [e] at q
        exact ⟨.str z, H, I, (show RelV (.str z) (.str z t) from ⟨t, rfl⟩), q⟩
      · rw [repS_fold]
        exact ⟨by rw [repS_len]; exact hsz, .str (repS z k.toNat), H, I.tok _, ⟨s.toks, rfl⟩, q⟩
theorem tuple_mul1 (l : Addr) (items : Array Value) (n : Nat) (dd : Option Addr) (sl : Array (Option Value)) (u : Tok) :
    Meets (Builtin.«tuple.__mul__» ⟨[.ref l, .int 1 u], []⟩) (fun _ R s => s.heap.get? l = some { cls := .type "tuple", dict := dd, data := .seq items n, slots := sl } ∧ R (.ok (.ret (.ref l))) s) :=
  .of_wp fun prog w A R s h => by
    obtain ⟨hp, g, d, tk, os⟩ := s
    obtain ⟨hl, h⟩ := h
    have f1 := AutoSeq1.idx_int
    wp_walk using wpAny_loadPart' hl
    exact ⟨_, rfl, h⟩
def rRep1 (K : PySem.W.Frag) : R2 := fun x y H Q => ∃ l xs, x = .ref l ∧ y = .int 1 ∧ SqT K H l xs ∧ Q (.ref l) H
theorem op_rep1 {X : Cx} : OpR X (binaryOp .Mult) (rRep1 X.K) := by
  intro pins s σ H x y v u Q I rx ry ⟨l, xs, ex, ey, hT, q⟩
  subst ex ey
  cases rx
  obtain ⟨t, rfl⟩ := ry
  obtain ⟨its, r, ⟨⟨cls, dd, data, sl⟩, ho, hc, n, hd⟩, hs⟩ := I.tuple hT
  simp only at hc hd
  subst hc hd
  exact wpAny_binaryOp_repeat_ref (T := "tuple") (U := "int") (by decide) ⟨_, ho, rfl⟩ (fun s' => typeIs_int s' 1 t) noFill_tuple_mul F.fills_int_mul F.slot_int_rmul repeat_tuple F.slot_int_index.lookup
    (call_meets F.slot_int_rmul (typeIs_int s 1 t) F.entry_int_rmul (F.args_int_rmul_2 _ _) (int_rmul_tuple 1 t l its.toArray n dd sl)
      ⟨ho, rfl, ⟨_, ho, rfl⟩, call_meets F.slot_tuple_mul ⟨_, ho, rfl⟩ F.entry_tuple_mul (F.args_tuple_mul_2 _ _) (tuple_mul1 l its.toArray n dd sl t) ⟨ho, .ref l, H, I, rfl, q⟩⟩)
end Dn

/-! list(text), tuple(text), tuple[::-1] -/
namespace Dn
open PySem PySem.Spec PyProof.Rows L2
def chV (z : Str) : List V := z.cps.toList.map fun c => V.str ⟨#[c]⟩
theorem vals_signs : ∀ {l : List Nat} {us : List Value}, us.length = l.length → (∀ (j : Nat) (v : Value), us[j]? = some v → ∃ c u, l[j]? = some c ∧ v = .str ⟨#[c]⟩ u) → Vals (l.map fun c => V.str ⟨#[c]⟩) us
  | [], [], _, _ => .nil
  | c :: l, u :: us, hl, h => by
    obtain ⟨c', t, e1, e2⟩ := h 0 u rfl
    have e1' : c = c' := Option.some.inj e1
    subst e1'
    rw [List.map_cons]
    exact .cons ⟨t, e2⟩ (vals_signs (by simpa using hl) fun j v e => h (j + 1) v e)
  | [], _ :: _, hl, _ => by simp at hl
  | _ :: _, [], hl, _ => by simp at hl
theorem vals_chV {z : Str} {acc : Array Value} (h : ItemsOf (SignAt z) acc z.cps.size) : Vals (chV z) acc.toList := by
  refine vals_signs (by rw [Array.length_toList, Array.length_toList]; exact h.1) fun j v e => ?_
  obtain ⟨c, u, e1, e2⟩ := h.2 j v (by rw [← Array.getElem?_toList]; exact e)
  exact ⟨c, u, by rw [Array.getElem?_toList]; exact e1, e2⟩
theorem chV_len (z : Str) : (chV z).length = z.length := by
  unfold chV
  rw [List.length_map, Array.length_toList]
  rfl
section
variable {X : Cx}
theorem call_listS (hc : X.calm = true) : CallR X (.type "list") (fun xs H Q => ∃ z : Str, xs = [.str z] ∧ z.length ≤ sizeLine ∧ ∀ p, H p = none → Q (.ref p) (upd H p (.lst (chV z)))) := by
  intro pins s σ H xs us Q I r h
  obtain ⟨z, rfl, hz, q⟩ := h
  obtain ⟨u, rfl, t, rfl⟩ := vals1 r
  refine call_list_str (I.ok.hd hc) z t (fun h' tk acc' c' hk hS' hacc => ?_) hz
  exact ⟨.ref s.heap.objs.size, _, I.laid (t' := tk) hk (Nat.le_refl _) (show ObjOk X.prog X.w _ h' _ (.lst (chV z)) from ⟨by rw [chV_len]; exact hz, acc'.toList, c', vals_chV hacc, by rw [Array.toArray_toList]; exact hS'⟩), rfl, q _ (I.hok.fresh (Nat.le_refl _))⟩
theorem call_tupS (hc : X.calm = true) : CallR X (.type "tuple") (fun xs H Q => ∃ z : Str, xs = [.str z] ∧ z.length ≤ sizeLine ∧ ∀ p, H p = none → Q (.ref p) (upd H p (.tup (chV z)))) := by
  intro pins s σ H xs us Q I r h
  obtain ⟨z, rfl, hz, q⟩ := h
  obtain ⟨u, rfl, t, rfl⟩ := vals1 r
  refine call_tuple_str (I.ok.hd hc) z t (fun h' tk acc hk hacc => ?_) hz
  have I1 : Inv X pins σ H { s with heap := h', toks := tk } := I.kept (t' := tk) hk
  exact ⟨.ref h'.objs.size, _, I1.laid (t' := tk) (fun b o e => Heap.get?_push_of_some _ e) (Nat.le_refl _) (show ObjOk X.prog X.w _ _ _ (.tup (chV z)) from ⟨by rw [chV_len]; exact hz, acc.toList, vals_chV hacc, by rw [Array.toArray_toList]; exact IsTup.new _ _⟩), rfl, q _ (I1.hok.fresh (Nat.le_refl _))⟩
end
/-! ### tuple[::-1] -/
theorem places_rev (n : Nat) : Builtin.Slice.slicePlaces ((n : Int) - 1) (-1) (-1) = n := by
  unfold Builtin.Slice.slicePlaces
  simp only [show ¬ ((-1 : Int) > 0) by omega, if_false]
  split
  · rw [show -(-1 : Int) = 1 by rfl, Int.ediv_one]
    omega
  · omega
theorem pick_rev (xs : Array Value) : ((List.range xs.size).filterMap fun (m : Nat) => xs[(((xs.size : Nat) : Int) - 1 + (m : Int) * (-1)).toNat]?).toArray = xs.toList.reverse.toArray := by
  congr 1
  have e : ∀ m, m ∈ List.range xs.size → xs[(((xs.size : Nat) : Int) - 1 + (m : Int) * (-1)).toNat]? = some (xs.toList.reverse[m]?.getD .none) := by
    intro m hm
    have hm' : m < xs.size := List.mem_range.mp hm
    have hr : xs.toList.reverse[m]? = xs.toList[xs.size - 1 - m]? := by
      rw [List.getElem?_reverse (by simpa using hm'), Array.length_toList]
    rw [hr, show (((xs.size : Nat) : Int) - 1 + (m : Int) * (-1)).toNat = xs.size - 1 - m by omega, ← Array.getElem?_toList, List.getElem?_eq_getElem (by rw [Array.length_toList]; omega)]
    rfl
  have go : ∀ (l : List Nat) (f : Nat → Option Value) (g : Nat → Value), (∀ m, m ∈ l → f m = some (g m)) → l.filterMap f = l.map g := by
    intro l f g
    induction l with
    | nil => intro _; rfl
    | cons a l ih =>
      intro h
      rw [List.filterMap_cons, h a List.mem_cons_self, List.map_cons]
      simp only
      rw [ih fun m hm => h m (List.mem_cons_of_mem _ hm)]
  rw [go _ _ _ e]
  apply List.ext_getElem?
  intro i
  by_cases hi : i < xs.size
  · rw [List.getElem?_map, List.getElem?_range hi, List.getElem?_eq_getElem (by simpa using hi)]
    simp [List.getElem?_eq_getElem (show i < xs.toList.reverse.length by simpa using hi)]
  · rw [List.getElem?_eq_none (by simp; omega), List.getElem?_eq_none (by simp; omega)]
section
variable {prog : Program} {w : World} {A : Around} {E : Value → Shared → Prop} {s : Shared}
theorem sliceApplied_rev {sl : Addr} {vl vu vs : Value} {n : Nat} {Q : Int × Int × Nat → Shared → Prop} (hs : s.heap.IsSliceOf sl vl vu vs) (pl : IsPart vl none) (pu : IsPart vu none) (ps : IsPart vs (some (-1)))
    (h : Q ((n : Int) - 1, -1, n) s) : wpAny (model prog w) A (Builtin.Slice.sliceApplied (.ref sl) (pure (n : Int))) Q E s := by
  obtain ⟨os, hos, hcs, hds⟩ := id hs
  unfold Builtin.Slice.sliceApplied Builtin.Slice.sliceFields
  refine wpAny_bind (wpAny_bind (wpAny_field hos hds (x := vl) rfl (wpAny_bind (wpAny_field hos hds (x := vu) rfl (wpAny_bind (wpAny_field hos hds (x := vs) rfl (wpAny_pure ?_)))))))
  refine wpAny_bind (HT.slicePart_ ps ?_)
  show wpAny _ _ (if ((-1 : Int) == 0) = true then _ else _) _ _ s
  rw [if_neg (by decide)]
  refine wpAny_bind (HT.slicePart_ pl (wpAny_bind (HT.slicePart_ pu (wpAny_bind (wpAny_pure ?_)))))
  show wpAny _ _ (pure ((n : Int) - 1, (-1 : Int), Builtin.Slice.slicePlaces ((n : Int) - 1) (-1) (-1))) _ _ s
  rw [places_rev]
  exact wpAny_pure h
theorem getItem_tuple_rev {t sl : Addr} {items : Array Value} {vl vu vs : Value} {Q : Value → Shared → Prop} (ht : IsTup s.heap t items) (hs : s.heap.IsSliceOf sl vl vu vs) (pl : IsPart vl none) (pu : IsPart vu none) (ps : IsPart vs (some (-1)))
    (h : Q (.ref s.heap.objs.size) { s with heap := s.heap.push { cls := .type "tuple", data := .seq items.toList.reverse.toArray } })
    (hsz : items.size ≤ sizeLine) : wpAny (model prog w) A (getItem (.ref t) (.ref sl)) Q E s := by
  have htake : sizeOk (.seq items.toList.reverse.toArray) := by
    show items.toList.reverse.toArray.size ≤ sizeLine
    rw [List.size_toArray, List.length_reverse, Array.length_toList]
    exact hsz
  obtain ⟨os, hos, hcs, hds⟩ := id hs
  have hTs : s.TypeIs (.ref sl) "slice" := ⟨os, hos, hcs⟩
  unfold getItem
  try with_reducible refine wpAny_holding ?_
  first | refine wpAny_bind (wpAny_pure ?_) | skip
  refine wpAny_bind (wpAny_sequenceKey ht.typeIs (by decide) ?_)
  refine wpAny_bind (wpAny_callSpecial?_slot (name := Str.ofString "__getitem__") ht.typeIs PyProof.Rows.slot_tuple_getitem
    (wpAny_call_entry PyProof.Rows.slot_tuple_getitem ht.typeIs entry_tuple_getitem ?_ (args_tuple_getitem _ _)))
  show wpAny _ _ (Builtin.Tuple.tupleItemsOf (.ref t) >>= _) _ _ s
  refine wpAny_bind (tupleItemsOf_ ht ?_)
  refine wpAny_bind (wpAny_typeOf hTs ?_)
  rw [if_pos (by decide)]
  refine wpAny_bind (sliceApplied_rev (n := items.size) hs pl pu ps ?_)
  have hno : ¬ (((((items.size : Nat) : Int) - 1) == 0 && (-1 : Int) == 1 && items.size == items.size) = true) := by simp
  show wpAny _ _ (if ((((items.size : Nat) : Int) - 1) == 0 && (-1 : Int) == 1 && items.size == items.size) = true then _ else _) _ _ s
  rw [if_neg hno, pick_rev]
  first
    | exact wpAny_bind (m := Builtin.Tuple.tupleExact _) (wpAny_newObj_type (wpAny_pure ⟨_, rfl, wpAny_pure h⟩) htake)
    | exact wpAny_bind (m := Builtin.Tuple.tupleExact _) (wpAny_newObj_type (wpAny_bind (wpAny_pure (wpAny_pure ⟨_, rfl, wpAny_pure h⟩))) htake)
    | exact wpAny_bind (wpAny_bind (m := Builtin.Tuple.tupleExact _) (wpAny_newObj_type (wpAny_pure (wpAny_pure ⟨_, rfl, wpAny_pure h⟩)) htake))
    | exact wpAny_bind (wpAny_bind (m := Builtin.Tuple.tupleExact _) (wpAny_newObj_type (wpAny_pure ⟨_, rfl, wpAny_pure h⟩) htake))
end
def tRevA (K : PySem.W.Frag) (te : TE) : TE := fun σ H Q => te σ H fun x H1 => (∃ a xs, x = .ref a ∧ SqL K H1 a xs ∧ ∀ p, H1 p = none → Q (.ref p) (upd H1 p (.lst xs.reverse))) ∨ (∃ a xs, x = .ref a ∧ SqT K H1 a xs ∧ ∀ p, H1 p = none → Q (.ref p) (upd H1 p (.tup xs.reverse)))
theorem pe_revA {X : Cx} {e : Expr} {te : TE} {k : Nat} {p1 p2 p3 pos : Pos} (he : PE X e te) : PE X (.Subscript e (.Slice none none (some (.UnaryOp .USub (.Constant (.int 1) k p1) p2)) p3) pos) (tRevA X.K te) := by
  refine ⟨fun pins s σ H Q I h => ?_⟩
  refine Subscript_ (thn (he.run pins s σ H _ I h) fun v s1 ⟨x, H1, I1, r1, q1⟩ => ?_)
  have hst : PO X (some (.UnaryOp .USub (.Constant (.int 1) k p1) p2)) (tPart (tUn (rU fun i => .int (-i)) (tC (.int 1)))) := po_some (pe_un un_neg pe_int)
  refine wpAny_Slice (thn (po_none.run pins s1 σ H1 (fun o H2 => o = none ∧ H2 = H1) I1 ⟨rfl, rfl⟩) fun vl s2 ⟨l, H2, I2, pl, el, e2⟩ => ?_)
  subst el e2
  refine thn (po_none.run pins s2 σ H2 (fun o H3 => o = none ∧ H3 = H2) I2 ⟨rfl, rfl⟩) fun vu s3 ⟨u, H3, I3, pu, eu, e3⟩ => ?_
  subst eu e3
  refine thn (hst.run pins s3 σ H3 (fun o H4 => o = some (-1) ∧ H4 = H3) I3 ⟨1, rfl, -1, rfl, rfl, rfl⟩) fun vs s4 ⟨o, H4, I4, ps, eo, e4⟩ => ?_
  subst eo e4
  have I5 : Inv X pins σ H4 { s4 with heap := s4.heap.push { cls := .type "slice", data := .fields #[vl, vu, vs] } } := I4.kept (t' := s4.toks) fun b ob q => Heap.get?_push_of_some _ q
  rcases q1 with ⟨a, xs, ex, hx, q⟩ | ⟨a, xs, ex, hx, q⟩
  · subst ex
    cases r1
    obtain ⟨its, r, ht, hz⟩ := I5.list hx
    have hlen := r.length
    show wpAny (model X.prog X.w) X.A (subscriptTail e (.Slice none none (some (.UnaryOp .USub (.Constant (.int 1) k p1) p2)) p3) (.ref a) (.ref s4.heap.objs.size)) (EP X pins σ Q) X.xe { s4 with heap := s4.heap.push { cls := .type "slice", data := .fields #[vl, vu, vs] } }
    refine tail_any (ops := [.ref a, .ref s4.heap.objs.size]) ht.isList.typeIs (PySem.slot_list_getitem.lookup) ?_ (by with_unfolding_all rfl)
    refine wpAny_getItem_list_slice ht.isList (Heap.IsSliceOf.new _ vl vu vs) pl pu ps (by decide) ?_ (by rw [List.size_toArray]; omega)
    rw [PySem.W.krv_pick]
    refine ⟨.ref _, _, I5.laid (t' := s4.toks) (o := .lst xs.reverse) (fun b ob q => Heap.get?_push_of_some _ q) (Nat.le_refl _) ?_, rfl, q _ (I5.hok.fresh (Nat.le_refl _))⟩
    exact ⟨by rw [List.length_reverse]; exact hz, _, 0, r.reverse, Heap.get?_push_size _ rfl⟩
  · subst ex
    cases r1
    obtain ⟨its, r, ht, hz⟩ := I5.tuple hx
    have hlen := r.length
    show wpAny (model X.prog X.w) X.A (subscriptTail e (.Slice none none (some (.UnaryOp .USub (.Constant (.int 1) k p1) p2)) p3) (.ref a) (.ref s4.heap.objs.size)) (EP X pins σ Q) X.xe { s4 with heap := s4.heap.push { cls := .type "slice", data := .fields #[vl, vu, vs] } }
    refine tail_any (ops := [.ref a, .ref s4.heap.objs.size]) ht.typeIs (PyProof.Rows.slot_tuple_getitem.lookup) ?_ (by with_unfolding_all rfl)
    refine getItem_tuple_rev ht (Heap.IsSliceOf.new _ vl vu vs) pl pu ps ?_ (by rw [List.size_toArray]; omega)
    refine ⟨.ref _, _, I5.laid (t' := s4.toks) (o := .tup xs.reverse) (fun b ob q => Heap.get?_push_of_some _ q) (Nat.le_refl _) ?_, rfl, q _ (I5.hok.fresh (Nat.le_refl _))⟩
    exact ⟨by rw [List.length_reverse]; exact hz, _, r.reverse, IsTup.new _ _⟩
def rListA (K : PySem.W.Frag) : List V → Hp → VK → Prop := fun xs H Q => (∃ p ys, xs = [.ref p] ∧ (SqL K H p ys ∨ SqT K H p ys) ∧ ∀ l, H l = none → Q (.ref l) (upd H l (.lst ys))) ∨ (∃ z : Str, xs = [.str z] ∧ z.length ≤ sizeLine ∧ ∀ p, H p = none → Q (.ref p) (upd H p (.lst (chV z))))
def rTupA (K : PySem.W.Frag) : List V → Hp → VK → Prop := fun xs H Q => (∃ p ys, xs = [.ref p] ∧ ((SqL K H p ys ∧ ∀ l, H l = none → Q (.ref l) (upd H l (.tup ys))) ∨ (SqT K H p ys ∧ Q (.ref p) H))) ∨ (∃ z : Str, xs = [.str z] ∧ z.length ≤ sizeLine ∧ ∀ p, H p = none → Q (.ref p) (upd H p (.tup (chV z))))
theorem call_listA {X : Cx} (hc : X.calm = true) : CallR X (.type "list") (rListA X.K) := by
  intro pins s σ H xs us Q I r h
  rcases h with h | h
  · exact call_list_of pins s σ H xs us Q I r h
  · exact call_listS hc pins s σ H xs us Q I r h
theorem call_tupA {X : Cx} (hc : X.calm = true) : CallR X (.type "tuple") (rTupA X.K) := by
  intro pins s σ H xs us Q I r h
  rcases h with h | h
  · exact call_tuple_of pins s σ H xs us Q I r h
  · exact call_tupS hc pins s σ H xs us Q I r h
end Dn

namespace Dn
open PySem PySem.Spec L2
section
variable {X : DX} {W : WX}

/-! ### names, constants -/
def dVar (i : Nat) : DE := fun sl S => match sl[i]? with
  | some (some t) => .ok t S
  | _ => .bad
theorem le_var {e : Expr} {i : Nat} (h : PE X e (tVar i)) : LE X W e (dVar i) := h.imp fun σ H Q ⟨ρ, av, sl, S, hs, he, g⟩ => by
  unfold dVar at g
  cases e1 : sl[i]? with
  | none => rw [e1] at g; exact g.elim
  | some o =>
    cases o with
    | none => rw [e1] at g; exact g.elim
    | some t =>
      rw [e1] at g
      obtain ⟨v, hv, r⟩ := he.at_ i t e1
      exact ⟨v, hv, g v H ρ (Ext.refl _ _) (by rw [r.avN]; exact hs) r.toR⟩
def dC (t : T) : DE := fun _ S => .ok t S
theorem le_c {e : Expr} {v : V} {t : T} (h : PE X e (tC v)) (r : ∀ H ρ av, RepV X.K X.w H ρ av v t) : LE X W e (dC t) := h.imp fun σ H Q ⟨ρ, av, sl, S, hs, he, g⟩ =>
  g v H ρ (Ext.refl _ _) (by rw [(r H ρ av).avN]; exact hs) (r _ _ _).toR

/-! ### two values in a row -/
def dBin (f : T → T → Sto → RE) (da db : DE) : DE := fun sl S => (da sl S).bind fun x S1 => (db sl S1).bind fun y S2 => f (fz x) (fz y) S2
/-- what an operation by values must do -/
def OpD (X : DX) (r : R2) (f : T → T → Sto → RE) : Prop := ∀ (W : WX) (σ : L2.St) (H : Hp) (ρ av : List Addr) (S : Sto) (x y : V) (tx ty : T) (Q : VK),
  RepS X.K X.w H ρ av S → RepV X.K X.w H ρ av x tx → RepV X.K X.w H ρ av y ty → GoodE X W σ H ρ av Q (f tx ty S) → r x y H Q
theorem lift_bin {r : R2} {f : T → T → Sto → RE} {da db : DE} (hf : OpD X r f) (σ : L2.St) (H : Hp) (Q : VK) (h : liftE X W (dBin f da db) σ H Q) : tOp r (liftE X W da) (liftE X W db) σ H Q := by
  obtain ⟨ρ, av, sl, S, hs, he, g⟩ := h
  refine ⟨ρ, av, sl, S, hs, he, GoodE.step g fun t S1 _ v H1 ρ1 e1 s1 r1 g1 => ⟨ρ1, av, sl, S1, s1, he.ext e1, GoodE.step g1 fun t2 S2 _ v2 H2 ρ2 e2 s2 r2 g2 => ?_⟩⟩
  exact hf W σ H2 ρ2 av S2 v v2 _ _ Q s2 (r1.toV.ext e2) r2.toV g2
theorem le_bin {r : R2} {f : T → T → Sto → RE} {da db : DE} {e : Expr} (hf : OpD X r f) (h : PE X e (tOp r (liftE X W da) (liftE X W db))) : LE X W e (dBin f da db) := h.imp fun σ H Q q => lift_bin hf σ H Q q
/-- one value -/
def dUn (f : T → Sto → RE) (da : DE) : DE := fun sl S => (da sl S).bind fun x S1 => f (fz x) S1
def OpD1 (X : DX) (r : V → Hp → VK → Prop) (f : T → Sto → RE) : Prop := ∀ (W : WX) (σ : L2.St) (H : Hp) (ρ av : List Addr) (S : Sto) (x : V) (tx : T) (Q : VK),
  RepS X.K X.w H ρ av S → RepV X.K X.w H ρ av x tx → GoodE X W σ H ρ av Q (f tx S) → r x H Q
theorem le_un {r : V → Hp → VK → Prop} {f : T → Sto → RE} {da : DE} {e : Expr} (hf : OpD1 X r f) (h : PE X e (tUn r (liftE X W da))) : LE X W e (dUn f da) := h.imp fun σ H Q ⟨ρ, av, sl, S, hs, he, g⟩ =>
  ⟨ρ, av, sl, S, hs, he, GoodE.step g fun t S1 _ v H1 ρ1 e1 s1 r1 g1 => hf W σ H1 ρ1 av S1 v _ Q s1 r1.toV g1⟩

/-- the result is there at once, the heap as it was -/
theorem GoodE.now {σ : L2.St} {H : Hp} {ρ av : List Addr} {S : Sto} {Q : VK} {t : T} {v : V} (g : GoodE X W σ H ρ av Q (.ok t S)) (hs : RepS X.K X.w H ρ av S) (r : RepV X.K X.w H ρ av v t) : Q v H := g v H ρ (Ext.refl _ _) (by rw [r.avN]; exact hs) r.toR
/-- a new tuple -/
theorem GoodE.newTup {σ : L2.St} {H : Hp} {ρ av : List Addr} {S : Sto} {Q : VK} {ts : List T} {vs : List V} (g : GoodE X W σ H ρ av Q (.ok (.tup ts) S)) (hs : RepS X.K X.w H ρ av S) (r : RepVs X.K X.w H ρ av vs ts) {p : Addr} (hp : H p = none) : Q (.ref p) (upd H p (.tup vs)) :=
  g _ _ ρ (Ext.laid hs hp _) (hs.laid hp _) (RepV.toR (.tup upd_same (r.ext (Ext.laid hs hp _))))
theorem notin_new {H : Hp} {ρ av : List Addr} {S : Sto} {K : PySem.W.Frag} {w : World} (hs : RepS K w H ρ av S) {p : Addr} (hp : H p = none) : p ∉ ρ ∧ p ∉ av :=
  ⟨fun z => (by obtain ⟨u, hu, _⟩ := hs.there z; rw [hp] at hu; cases hu), fun z => (hs.out p z).1 hp⟩
/-- a new list -/
theorem GoodE.newLst {σ : L2.St} {H : Hp} {ρ av : List Addr} {S : Sto} {Q : VK} {ts : List T} {vs : List V} (g : GoodE X W σ H ρ av Q (.ok (.nlst ts) S)) (hs : RepS X.K X.w H ρ av S) (r : RepVs X.K X.w H ρ av vs ts) {p : Addr} (hp : H p = none) : Q (.ref p) (upd H p (.lst vs)) :=
  g _ _ ρ (Ext.laid hs hp _) (hs.laidN hp _) ⟨p, vs, rfl, hp, upd_same, (notin_new hs hp).1, (notin_new hs hp).2, (r.more hp).ext (Ext.laid hs hp _)⟩

/-! ### reading lists, tuples -/
/-- the items of a list -/
def lstOf (S : Sto) : T → Option (List T)
  | .lst ts => some ts
  | .flst ts => some ts
  | .ref i => match S[i]? with
    | some (.lst ts) => some ts
    | _ => none
  | _ => none
/-- .. of one that is an object of its own -/
def lstOf' (S : Sto) : T → Option (List T)
  | .lst ts => some ts
  | .ref i => match S[i]? with
    | some (.lst ts) => some ts
    | _ => none
  | _ => none
theorem lst_rep' {K : PySem.W.Frag} {w : World} {H : Hp} {ρ av : List Addr} {S : Sto} {v : V} {t : T} {ts : List T} (hs : RepS K w H ρ av S) (r : RepV K w H ρ av v t) (h : lstOf' S t = some ts) : ∃ a vs, v = .ref a ∧ H a = some (.lst vs) ∧ RepVs K w H ρ av vs ts := by
  cases r with
  | lst h0 h1 h2 rs => cases h; exact ⟨_, _, rfl, h0, rs⟩
  | @ref a i hi =>
    obtain ⟨o, ho, ro⟩ := hs.of_ref hi
    simp only [lstOf', ho] at h
    cases o with
    | lst us => cases h; obtain ⟨vs, h1, h2⟩ := ro; exact ⟨_, _, rfl, h1, h2⟩
    | _ => cases h
  | _ => cases h
theorem lst_rep {K : PySem.W.Frag} {w : World} {H : Hp} {ρ av : List Addr} {S : Sto} {v : V} {t : T} {ts : List T} (hs : RepS K w H ρ av S) (r : RepV K w H ρ av v t) (h : lstOf S t = some ts) : ∃ a vs, v = .ref a ∧ SqL K H a vs ∧ RepVs K w H ρ av vs ts := by
  cases r with
  | lst h0 h1 h2 rs => cases h; exact ⟨_, _, rfl, .inl (.inl h0), rs⟩
  | flst h0 rs => cases h; exact ⟨_, _, rfl, h0.elim (fun ⟨o, q⟩ => .inl (.inr ⟨o, q⟩)) .inr, rs⟩
  | @ref a i hi =>
    obtain ⟨o, ho, ro⟩ := hs.of_ref hi
    simp only [lstOf, ho] at h
    cases o with
    | lst us => cases h; obtain ⟨vs, h1, h2⟩ := ro; exact ⟨_, _, rfl, .inl (.inl h1), h2⟩
    | _ => cases h
  | _ => cases h
theorem tup_rep {K : PySem.W.Frag} {w : World} {H : Hp} {ρ av : List Addr} {v : V} {ts : List T} (r : RepV K w H ρ av v (.tup ts)) : ∃ a vs, v = .ref a ∧ SqT K H a vs ∧ RepVs K w H ρ av vs ts := by
  cases r with
  | tup h rs => exact ⟨_, _, rfl, .inl (.inl h), rs⟩
/-- the items of a list or a tuple -/
def seqOf (S : Sto) : T → Option (List T)
  | .tup ts => some ts
  | .ktup ts => some ts
  | t => lstOf S t
theorem seq_rep {K : PySem.W.Frag} {w : World} {H : Hp} {ρ av : List Addr} {S : Sto} {v : V} {t : T} {ts : List T} (hs : RepS K w H ρ av S) (r : RepV K w H ρ av v t) (h : seqOf S t = some ts) : ∃ a vs, v = .ref a ∧ (SqL K H a vs ∨ SqT K H a vs) ∧ RepVs K w H ρ av vs ts := by
  cases t with
  | tup us =>
    cases h
    obtain ⟨a, vs, e, q, rs⟩ := tup_rep r
    exact ⟨a, vs, e, .inr q, rs⟩
  | ktup us =>
    cases h
    cases r with
    | tupK h rs => exact ⟨_, _, rfl, .inr (.inr h), rs⟩
  | _ =>
    obtain ⟨a, vs, e, q, rs⟩ := lst_rep hs r h
    exact ⟨a, vs, e, .inl q, rs⟩
theorem RepV.int_inv {K : PySem.W.Frag} {w : World} {H : Hp} {ρ av : List Addr} {v : V} {i : Int} (r : RepV K w H ρ av v (.int i)) : v = .int i := by cases r; rfl
theorem RepV.str_inv {K : PySem.W.Frag} {w : World} {H : Hp} {ρ av : List Addr} {v : V} {i : Str} (r : RepV K w H ρ av v (.str i)) : v = .str i := by cases r; rfl
theorem RepV.bl_inv {K : PySem.W.Frag} {w : World} {H : Hp} {ρ av : List Addr} {v : V} {i : Bool} (r : RepV K w H ρ av v (.bl i)) : v = .bl i := by cases r; rfl
theorem RepV.non_inv {K : PySem.W.Frag} {w : World} {H : Hp} {ρ av : List Addr} {v : V} (r : RepV K w H ρ av v .non) : v = .non := by cases r; rfl

/-! ### arithmetic -/
/-- ints alone, under a condition -/
def fInt (C : Int → Int → Prop) [∀ i j, Decidable (C i j)] (g : Int → Int → Int) : T → T → Sto → RE := fun x y S => match x, y with
  | .int i, .int j => if C i j then .ok (.int (g i j)) S else .bad
  | _, _ => .bad
theorem od_int {C : Int → Int → Prop} [∀ i j, Decidable (C i j)] {g : Int → Int → Int} : OpD X (rI C fun i j => .int (g i j)) (fInt C g) := by
  intro W σ H ρ av S x y tx ty Q hs rx ry q
  unfold fInt at q
  split at q
  · rename_i i j
    cases rx.int_inv; cases ry.int_inv
    split at q
    · rename_i c
      exact ⟨i, j, rfl, rfl, c, q.now hs (.int _)⟩
    · exact q.elim
  · exact q.elim
/-- + -/
def fAdd : T → T → Sto → RE := fun x y S => match x, y with
  | .int i, .int j => .ok (.int (i + j)) S
  | .str a, .str b => if a.length + b.length ≤ sizeLine then .ok (.str (a ++ b)) S else .bad
  | .tup xs, .tup ys => if xs.length + ys.length ≤ sizeLine then .ok (.tup (xs ++ ys)) S else .bad
  | x, y => match lstOf' S x, lstOf' S y with
    | some xs, some ys => if xs.length + ys.length ≤ sizeLine then .ok (.nlst (xs ++ ys)) S else .bad
    | _, _ => .bad
def rAdd4 (K : PySem.W.Frag) : R2 := fun x y H Q => rI0 (fun i j => .int (i + j)) x y H Q ∨ (∃ i j, x = .str i ∧ y = .str j ∧ i.length + j.length ≤ sizeLine ∧ Q (.str (i ++ j)) H) ∨ rCatA K x y H Q ∨ rCat x y H Q
theorem op_add4 : OpR X (binaryOp .Add) (rAdd4 X.K) := op_add.or (op_add_str.or (op_catA.or op_cat))
theorem od_lists {K : PySem.W.Frag} {W : WX} {σ : L2.St} {H : Hp} {ρ av : List Addr} {S : Sto} {x y : V} {tx ty : T} {Q : VK} (hs : RepS X.K X.w H ρ av S) (rx : RepV X.K X.w H ρ av x tx) (ry : RepV X.K X.w H ρ av y ty)
    (q : GoodE X W σ H ρ av Q (match lstOf' S tx, lstOf' S ty with
      | some xs, some ys => if xs.length + ys.length ≤ sizeLine then .ok (.nlst (xs ++ ys)) S else .bad
      | _, _ => .bad)) : rCat x y H Q := by
  split at q
  · rename_i xs ys h1 h2
    split at q
    · rename_i hl
      obtain ⟨a, vs, rfl, ha, ra⟩ := lst_rep' hs rx h1
      obtain ⟨b, us, rfl, hb, rb⟩ := lst_rep' hs ry h2
      exact ⟨a, b, vs, us, rfl, rfl, ha, hb, by rw [ra.length, rb.length]; exact hl, fun p hp => q.newLst hs (ra.append rb) hp⟩
    · exact q.elim
  · exact q.elim
theorem od_add : OpD X (rAdd4 X.K) fAdd := by
  intro W σ H ρ av S x y tx ty Q hs rx ry q
  unfold fAdd at q
  split at q
  · cases rx.int_inv; cases ry.int_inv
    exact .inl ⟨_, _, rfl, rfl, q.now hs (.int _)⟩
  · cases rx.str_inv; cases ry.str_inv
    split at q
    · rename_i hl
      exact .inr (.inl ⟨_, _, rfl, rfl, hl, q.now hs (.str _)⟩)
    · exact q.elim
  · rename_i xs ys
    split at q
    · rename_i hl
      obtain ⟨a, vs, rfl, ha, ra⟩ := tup_rep rx
      obtain ⟨b, us, rfl, hb, rb⟩ := tup_rep ry
      refine .inr (.inr (.inl ⟨a, b, vs, us, rfl, rfl, ha, hb, by rw [ra.length, rb.length]; exact hl, fun e => ?_, fun _ e => ?_, fun _ _ p hp => q.newTup hs (ra.append rb) hp⟩))
      · subst e; cases ra
        exact q.now hs ry
      · subst e; cases rb
        rw [List.append_nil] at q
        exact q.now hs rx
    · exact q.elim
  · exact .inr (.inr (.inr (od_lists (K := X.K) hs rx ry q)))
theorem le_add {a b : Expr} {pos : Pos} {da db : DE} (ha : LE X W a da) (hb : LE X W b db) : LE X W (.BinOp a .Add b pos) (dBin fAdd da db) := le_bin od_add (pe_op op_add4 ha hb)
theorem le_sub {a b : Expr} {pos : Pos} {da db : DE} (ha : LE X W a da) (hb : LE X W b db) : LE X W (.BinOp a .Sub b pos) (dBin (fInt (fun _ _ => True) (· - ·)) da db) :=
  le_bin od_int (pe_op (r := rI (fun _ _ => True) fun i j => .int (i - j)) (fun pins s σ H x y v u Q I rx ry ⟨i, j, ex, ey, _, q⟩ => op_sub pins s σ H x y v u Q I rx ry ⟨i, j, ex, ey, q⟩) ha hb)
theorem le_mod {a b : Expr} {pos : Pos} {da db : DE} (ha : LE X W a da) (hb : LE X W b db) : LE X W (.BinOp a .Mod b pos) (dBin (fInt (fun _ j => 0 < j) (· % ·)) da db) := le_bin od_int (pe_op op_mod ha hb)
instance (i j : Int) : Decidable (CDivW i j) := by unfold CDivW; infer_instance
instance (i j : Int) : Decidable (CMulW i j) := by unfold CMulW; infer_instance
instance (i j : Int) : Decidable (CPow i j) := by unfold CPow; infer_instance
theorem le_fdiv {a b : Expr} {pos : Pos} {da db : DE} (ha : LE X W a da) (hb : LE X W b db) : LE X W (.BinOp a .FloorDiv b pos) (dBin (fInt CDivW (· / ·)) da db) := le_bin od_int (pe_op op_fdivW ha hb)
theorem le_pow {a b : Expr} {pos : Pos} {da db : DE} (ha : LE X W a da) (hb : LE X W b db) : LE X W (.BinOp a .Pow b pos) (dBin (fInt CPow fun i j => i ^ j.toNat) da db) := le_bin od_int (pe_op op_pow ha hb)
/-- a base below 2 ^ 10000 -/
def CPowW (i j : Int) : Prop := 0 ≤ j ∧ j ≤ 1000 ∧ i.natAbs.log2 < 10000
instance (i j : Int) : Decidable (CPowW i j) := by unfold CPowW; infer_instance
theorem op_powW : OpR X (binaryOp .Pow) (rI CPowW fun i j => .int (i ^ j.toNat)) := opI fun i j _ _ _ _ _ hc q => PyProof.Rows.pow_int hc.1 (by
  have hb : Builtin.Int.intBits i ≤ 10000 := by
    unfold Builtin.Int.intBits
    have := hc.2.2
    split <;> omega
  have h1 : (Builtin.Int.intBits i : Int) * j ≤ 10000 * j := Int.mul_le_mul_of_nonneg_right (by omega) hc.1
  have := hc.2.1
  omega) q
theorem le_powW {a b : Expr} {pos : Pos} {da db : DE} (ha : LE X W a da) (hb : LE X W b db) : LE X W (.BinOp a .Pow b pos) (dBin (fInt CPowW fun i j => i ^ j.toNat) da db) := le_bin od_int (pe_op op_powW ha hb)
theorem le_shl {a b : Expr} {pos : Pos} {da db : DE} (ha : LE X W a da) (hb : LE X W b db) : LE X W (.BinOp a .LShift b pos) (dBin (fInt CPow fun i j => i * 2 ^ j.toNat) da db) := le_bin od_int (pe_op op_shl ha hb)
theorem le_shr {a b : Expr} {pos : Pos} {da db : DE} (ha : LE X W a da) (hb : LE X W b db) : LE X W (.BinOp a .RShift b pos) (dBin (fInt (fun _ j => 0 ≤ j) fun i j => i / 2 ^ j.toNat) da db) := le_bin od_int (pe_op op_shr ha hb)
theorem le_and {a b : Expr} {pos : Pos} {da db : DE} (ha : LE X W a da) (hb : LE X W b db) : LE X W (.BinOp a .BitAnd b pos) (dBin (fInt (fun _ _ => True) Builtin.bitAnd) da db) :=
  le_bin od_int (pe_op (r := rI (fun _ _ => True) fun i j => .int (Builtin.bitAnd i j)) (fun pins s σ H x y v u Q I rx ry ⟨i, j, ex, ey, _, q⟩ => op_and pins s σ H x y v u Q I rx ry ⟨i, j, ex, ey, q⟩) ha hb)
/-- * : ints (one of them small, or both together below a million bits), a tuple or a list so many times -/
def CMulA (i j : Int) : Prop := CMul i j ∨ CMulW i j
instance (i j : Int) : Decidable (CMul i j) := by unfold CMul; infer_instance
instance (i j : Int) : Decidable (CMulA i j) := by unfold CMulA; infer_instance
def fMul : T → T → Sto → RE := fun x y S => match x, y with
  | .int i, .int j => if CMulA i j then .ok (.int (i * j)) S else .bad
  | .str z, .int k => if -(2 ^ 63) ≤ k ∧ k < 2 ^ 63 ∧ z.length * k.toNat ≤ 16777216 then .ok (.str (repS z k.toNat)) S else .bad
  | .tup xs, .int k => if k = 1 then .ok (.tup xs) S else if xs ≠ [] ∧ 2 ≤ k ∧ k ≤ 1000 ∧ xs.length ≤ 1000 then .ok (.tup (List.replicate k.toNat xs).flatten) S else .bad
  | .ref i, .int k => match S[i]? with
    | some (.lst xs) => if -(2 ^ 63) ≤ k ∧ k < 2 ^ 63 ∧ xs.length * k.toNat ≤ sizeLine then .ok (.nlst (List.replicate k.toNat xs).flatten) S else .bad
    | _ => .bad
  | .lst xs, .int k => if -(2 ^ 63) ≤ k ∧ k < 2 ^ 63 ∧ xs.length * k.toNat ≤ sizeLine then .ok (.nlst (List.replicate k.toNat xs).flatten) S else .bad
  | _, _ => .bad
theorem RepVs.rep {K : PySem.W.Frag} {w : World} {H : Hp} {ρ av : List Addr} {vs : List V} {ts : List T} (r : RepVs K w H ρ av vs ts) : ∀ k : Nat, RepVs K w H ρ av (List.replicate k vs).flatten (List.replicate k ts).flatten
  | 0 => .nil
  | k + 1 => by rw [List.replicate_succ, List.replicate_succ, List.flatten_cons, List.flatten_cons]; exact r.append (RepVs.rep r k)
def rMul4 (K : PySem.W.Frag) : R2 := fun x y H Q => rI CMul (fun i j => .int (i * j)) x y H Q ∨ rI CMulW (fun i j => .int (i * j)) x y H Q ∨ rRepT K x y H Q ∨ rRep x y H Q ∨ rRepS x y H Q ∨ rRep1 K x y H Q
theorem op_mul4 : OpR X (binaryOp .Mult) (rMul4 X.K) := op_mul.or (op_mulW.or (op_repT.or (op_rep.or (op_repS.or op_rep1))))
theorem od_mul : OpD X (rMul4 X.K) fMul := by
  intro W σ H ρ av S x y tx ty Q hs rx ry q
  unfold fMul at q
  split at q
  · cases rx.int_inv; cases ry.int_inv
    split at q
    · rename_i c
      rcases c with c | c
      · exact .inl ⟨_, _, rfl, rfl, c, q.now hs (.int _)⟩
      · exact .inr (.inl ⟨_, _, rfl, rfl, c, q.now hs (.int _)⟩)
    · exact q.elim
  · cases rx.str_inv; cases ry.int_inv
    split at q
    · rename_i c
      exact .inr (.inr (.inr (.inr (.inl ⟨_, _, rfl, rfl, c.1, c.2.1, c.2.2, q.now hs (.str _)⟩))))
    · exact q.elim
  · cases ry.int_inv
    split at q
    · rename_i c
      subst c
      obtain ⟨a, vs, rfl, ha, ra⟩ := tup_rep rx
      exact .inr (.inr (.inr (.inr (.inr ⟨a, vs, rfl, rfl, ha, q.now hs rx⟩))))
    obtain ⟨a, vs, rfl, ha, ra⟩ := tup_rep rx
    split at q
    · rename_i c
      refine .inr (.inr (.inl ⟨a, _, vs, rfl, rfl, ha, ?_, c.2.1, c.2.2.1, by rw [ra.length]; exact c.2.2.2, fun p hp => q.newTup hs (ra.rep _) hp⟩))
      intro e; subst e; cases ra; exact c.1 rfl
    · exact q.elim
  · rename_i i k
    cases ry.int_inv
    split at q
    · rename_i xs hx
      split at q
      · rename_i c
        obtain ⟨a, vs, rfl, ha, ra⟩ := lst_rep' (ts := xs) hs rx (by simp only [lstOf', hx])
        exact .inr (.inr (.inr (.inl ⟨a, k, vs, rfl, rfl, ha, c.1, c.2.1, by rw [ra.length]; exact c.2.2, fun p hp => q.newLst hs (ra.rep _) hp⟩)))
      · exact q.elim
    · exact q.elim
  · rename_i xs k
    cases ry.int_inv
    split at q
    · rename_i c
      obtain ⟨a, vs, rfl, ha, ra⟩ := lst_rep' (ts := xs) hs rx rfl
      exact .inr (.inr (.inr (.inl ⟨a, k, vs, rfl, rfl, ha, c.1, c.2.1, by rw [ra.length]; exact c.2.2, fun p hp => q.newLst hs (ra.rep _) hp⟩)))
    · exact q.elim
  · exact q.elim
theorem le_mul {a b : Expr} {pos : Pos} {da db : DE} (ha : LE X W a da) (hb : LE X W b db) : LE X W (.BinOp a .Mult b pos) (dBin fMul da db) := le_bin od_mul (pe_op op_mul4 ha hb)
/-- - x -/
def fNeg : T → Sto → RE := fun x S => match x with
  | .int i => .ok (.int (-i)) S
  | _ => .bad
theorem le_neg {a : Expr} {pos : Pos} {da : DE} (ha : LE X W a da) : LE X W (.UnaryOp .USub a pos) (dUn fNeg da) := le_un (r := rU fun i => .int (-i)) (fun W σ H ρ av S x tx Q hs rx q => by
  unfold fNeg at q
  split at q
  · cases rx.int_inv
    exact ⟨_, rfl, q.now hs (.int _)⟩
  · exact q.elim) (pe_un un_neg ha)
end
end Dn

namespace Dn
open PySem PySem.Spec L2

/-! ### data -/
mutual
def T.dat : T → PyData
  | .non => .none
  | .bl b => .bool b
  | .int i => .int i
  | .str x => .str x
  | .tup ts => .tuple (T.dats ts)
  | .lst ts => .list (T.dats ts)
  | .nlst ts => .dict []
  | .flst ts => .list (T.dats ts)
  | .ktup ts => .tuple (T.dats ts)
  | .ref _ => .dict []
  | .dic _ => .dict []
def T.dats : List T → List PyData
  | [] => []
  | t :: ts => t.dat :: T.dats ts
end
theorem T.dats_map : ∀ ts : List T, T.dats ts = ts.map T.dat
  | [] => rfl
  | t :: ts => by rw [T.dats, T.dats_map ts]; rfl
/-- a list of the store as its items -/
def rd (S : Sto) : T → T
  | .ref i => match S[i]? with
    | some (.lst ts) => .lst ts
    | _ => .ref i
  | t => t
def dato (S : Sto) (t : T) : PyData := (rd S t).dat
abbrev fit (d : PyData) : Bool := SeqAt.shaped d

section
variable {K : PySem.W.Frag} {w : World} {H : Hp} {ρ av : List Addr}
mutual
theorem RepV.dp : ∀ {v : V} {t : T}, RepV K w H ρ av v t → t.dat.canLay0 = true → Dp K H v t.dat
  | _, _, .non, _ => .non
  | _, _, .bl b, _ => .bl b
  | _, _, .int b, _ => .int b
  | _, _, .str b, _ => .str b
  | _, _, .tup h r, c => .tup (.inl (.inl h)) (RepVs.dp r (by simpa [T.dat, PyData.canLay0] using c))
  | _, _, .tupK h r, c => .tup (.inr h) (RepVs.dp r (by simpa [T.dat, PyData.canLay0] using c))
  | _, _, .lst h h1 h2 r, c => .lst (.inl (.inl h)) (RepVs.dp r (by simpa [T.dat, PyData.canLay0] using c))
  | _, _, .flst h r, c => .lst (h.elim (fun ⟨o, q⟩ => .inl (.inr ⟨o, q⟩)) .inr) (RepVs.dp r (by simpa [T.dat, PyData.canLay0] using c))
  | _, _, .ref h, c => by simp [T.dat, PyData.canLay0] at c
  | _, _, .dic h h1 h2 r, c => by simp [T.dat, PyData.canLay0] at c
  | _, _, .dicK h hx r, c => by simp [T.dat, PyData.canLay0] at c
theorem RepVs.dp : ∀ {v : List V} {t : List T}, RepVs K w H ρ av v t → PyData.canLayAll0 (T.dats t) = true → DpAll K H v (T.dats t)
  | _, _, .nil, _ => .nil
  | _, _, .cons r rs, c => by
    rw [T.dats, PyData.canLayAll0, Bool.and_eq_true] at c
    exact .cons (RepV.dp r c.1) (RepVs.dp rs c.2)
end
theorem lay_of_fit {d : PyData} (h : fit d = true) : d.canLay0 = true := SeqAt.canLay_of_shaped h
theorem RepV.dpo {S : Sto} {v : V} {t : T} (hs : RepS K w H ρ av S) (r : RepV K w H ρ av v t) (c : fit (dato S t) = true) : Dp K H v (dato S t) := by
  have c := lay_of_fit c
  cases t with
  | ref i =>
    cases r with
    | @ref a _ hi =>
      obtain ⟨o, ho, ro⟩ := hs.of_ref hi
      unfold dato rd at c ⊢
      simp only [ho] at c ⊢
      cases o with
      | lst us =>
        obtain ⟨vs, h1, h2⟩ := ro
        exact .lst (.inl (.inl h1)) (RepVs.dp h2 (by simpa [T.dat, PyData.canLay0] using c))
      | _ => simp [T.dat, PyData.canLay0] at c
  | _ => exact RepV.dp r c
end

/-! ### lowering -/
section
variable {X : DX} {W : WX}
def Low (X : DX) (W : WX) (d : DE) (t : TE) : Prop := ∀ σ H Q, liftE X W d σ H Q → t σ H Q
theorem le_of {d : DE} {t : TE} {e : Expr} (l : Low X W d t) (h : PE X e t) : LE X W e d := h.imp l
def dTest (d : DE) : DB := fun sl S => match d sl S with
  | .ok (.bl b) S' => .ok b S'
  | .ok _ _ => .bad
  | .exc c fs S' => .exc c fs S'
  | .bad => .bad
theorem GoodE.test {σ : L2.St} {H : Hp} {ρ av : List Addr} {Q : Bool → Hp → Prop} {r : RE} (g : GoodB X W σ H ρ av Q (match r with
  | .ok (.bl b) S' => .ok b S'
  | .ok _ _ => .bad
  | .exc c fs S' => .exc c fs S'
  | .bad => .bad)) : GoodE X W σ H ρ av (fun x H' => ∃ c, x = .bl c ∧ Q c H') r := by
  cases r with
  | ok t S' =>
    cases t with
    | bl b =>
      intro v H' ρ' e s r
      cases RepV.bl_inv (r : RepV X.K X.w H' ρ' av v (.bl b))
      exact ⟨b, rfl, g H' ρ' e s⟩
    | _ => exact g.elim
  | exc c fs S' => exact g
  | bad => exact g
theorem lt_of {d : DE} {t : TE} {e : Expr} (l : Low X W d t) (h : PT X e (tB t)) : LT X W e (dTest d) := h.imp fun σ H Q ⟨ρ, av, sl, S, hs, he, g⟩ => l σ H _ ⟨ρ, av, sl, S, hs, he, GoodE.test g⟩
theorem low_bin {r : R2} {f : T → T → Sto → RE} {da db : DE} (hf : OpD X r f) : Low X W (dBin f da db) (tOp r (liftE X W da) (liftE X W db)) := lift_bin hf
theorem low_id {d : DE} : Low X W d (liftE X W d) := fun _ _ _ q => q
/-- an expression whose value is a bool, as a test -/
theorem lt_val {d : DE} {e : Expr} (h : LE X W e d) (he : ∀ whole, isTrue e X.env whole = (do let v ← whole; standAt e.pos; holding [v] (truthy v)) := by intro _; rfl) : LT X W e (dTest d) := lt_of low_id (pt_val h he)

/-! ### comparisons -/
/-- == of what is no list, no tuple -/
def eqS : T → T → Option Bool
  | .non, .non => some true
  | .int i, .int j => some (decide (i = j))
  | .bl i, .bl j => some (decide (i = j))
  | .str i, .str j => some (decide (i = j))
  | _, _ => none
def fEq (neg : Bool) : T → T → Sto → RE := fun x y S => match eqS x y with
  | some b => .ok (.bl (if neg then !b else b)) S
  | none => if fit (dato S x) && fit (dato S y) then .ok (.bl (if neg then !(PyData.eqv (dato S x) (dato S y)) else PyData.eqv (dato S x) (dato S y))) S else .bad
def rEq2 (K : PySem.W.Frag) : R2 := fun x y H Q => rEq x y H Q ∨ rEqD K x y H Q
def rNe2 (K : PySem.W.Frag) : R2 := fun x y H Q => rNe x y H Q ∨ rNeD K x y H Q
theorem eqS_scal {K : PySem.W.Frag} {w : World} {H : Hp} {ρ av : List Addr} {x y : V} {tx ty : T} {b : Bool} (rx : RepV K w H ρ av x tx) (ry : RepV K w H ρ av y ty) (h : eqS tx ty = some b) : scal x y = true ∧ decide (x = y) = b := by
  unfold eqS at h
  split at h
  · cases rx.non_inv; cases ry.non_inv; cases h; exact ⟨rfl, by simp⟩
  · cases rx.int_inv; cases ry.int_inv; cases h; exact ⟨rfl, by simp⟩
  · cases rx.bl_inv; cases ry.bl_inv; cases h; exact ⟨rfl, by simp⟩
  · cases rx.str_inv; cases ry.str_inv; cases h; exact ⟨rfl, by simp⟩
  · cases h
theorem od_eq : OpD X (rEq2 X.K) (fEq false) := by
  intro W σ H ρ av S x y tx ty Q hs rx ry q
  unfold fEq at q
  cases e : eqS tx ty with
  | some b =>
    simp only [e, Bool.false_eq_true, if_false] at q
    obtain ⟨h1, h2⟩ := eqS_scal rx ry e
    exact .inl ⟨h1, by rw [h2]; exact q.now hs (.bl _)⟩
  | none =>
    simp only [e] at q
    split at q
    · rename_i c
      rw [Bool.and_eq_true] at c
      exact .inr ⟨_, _, rx.dpo hs c.1, ry.dpo hs c.2, c.1, c.2, q.now hs (.bl _)⟩
    · exact q.elim
theorem od_ne : OpD X (rNe2 X.K) (fEq true) := by
  intro W σ H ρ av S x y tx ty Q hs rx ry q
  unfold fEq at q
  cases e : eqS tx ty with
  | some b =>
    simp only [e, if_true] at q
    obtain ⟨h1, h2⟩ := eqS_scal rx ry e
    exact .inl ⟨h1, by rw [h2]; exact q.now hs (.bl _)⟩
  | none =>
    simp only [e] at q
    split at q
    · rename_i c
      rw [Bool.and_eq_true] at c
      exact .inr ⟨_, _, rx.dpo hs c.1, ry.dpo hs c.2, c.1, c.2, q.now hs (.bl _)⟩
    · exact q.elim
theorem hu64 {A : Around} (hu : A.units + 65 < cLine) : A.units + 64 < cLine := by omega
theorem or_eq (hu : X.A.units + 65 < cLine) : OpR X (compareOp .Eq) (rEq2 X.K) := op_eq.or (op_eqD (hu64 hu))
theorem or_ne (hu : X.A.units + 65 < cLine) : OpR X (compareOp .NotEq) (rNe2 X.K) := op_ne.or (op_neD (hu64 hu))

/-- < of ints, texts -/
def fLt (fi : Int → Int → Bool) (fs : List Nat → List Nat → Bool) : T → T → Sto → RE := fun x y S => match x, y with
  | .int i, .int j => .ok (.bl (fi i j)) S
  | .str a, .str b => .ok (.bl (fs a.cps.toList b.cps.toList)) S
  | _, _ => .bad
def rLt2 (fi : Int → Int → Bool) (fs : List Nat → List Nat → Bool) : R2 := fun x y H Q => rI0 (fun i j => .bl (fi i j)) x y H Q ∨ (∃ i j, x = .str i ∧ y = .str j ∧ Q (.bl (fs i.cps.toList j.cps.toList)) H)
theorem od_lt {fi : Int → Int → Bool} {fs : List Nat → List Nat → Bool} : OpD X (rLt2 fi fs) (fLt fi fs) := by
  intro W σ H ρ av S x y tx ty Q hs rx ry q
  unfold fLt at q
  split at q
  · cases rx.int_inv; cases ry.int_inv
    exact .inl ⟨_, _, rfl, rfl, q.now hs (.bl _)⟩
  · cases rx.str_inv; cases ry.str_inv
    exact .inr ⟨_, _, rfl, rfl, q.now hs (.bl _)⟩
  · exact q.elim
abbrev fLT := fLt (fun i j => decide (i < j)) (fun a b => decide (a < b))
abbrev fLE := fLt (fun i j => decide (i ≤ j)) (fun a b => !decide (b < a))
abbrev fGT := fLt (fun i j => decide (j < i)) (fun a b => decide (b < a))
abbrev fGE := fLt (fun i j => decide (j ≤ i)) (fun a b => !decide (a < b))
theorem or_lt : OpR X (compareOp .Lt) (rLt2 (fun i j => decide (i < j)) (fun a b => decide (a < b))) := op_lt.or op_lt_str
theorem or_le : OpR X (compareOp .LtE) (rLt2 (fun i j => decide (i ≤ j)) (fun a b => !decide (b < a))) := op_le.or op_le_str
theorem or_gt : OpR X (compareOp .Gt) (rLt2 (fun i j => decide (j < i)) (fun a b => decide (b < a))) := op_gt.or op_gt_str
theorem or_ge : OpR X (compareOp .GtE) (rLt2 (fun i j => decide (j ≤ i)) (fun a b => !decide (a < b))) := op_ge.or op_ge_str

/-! in -/
def rInDT (K : PySem.W.Frag) (neg : Bool) : R2 := fun x y H Q => ∃ d ds, Dp K H x d ∧ (Dp K H y (.list ds) ∨ Dp K H y (.tuple ds)) ∧ SeqAt.shaped d = true ∧ SeqAt.shaped (.list ds) = true ∧ Q (.bl (if neg then !(ds.any fun z => PyData.eqv z d) else ds.any fun z => PyData.eqv z d)) H
theorem op_inDT (hu : X.A.units + 65 < cLine) : OpR X (compareOp .In) (rInDT X.K false) := by
  intro pins s σ H x y v u Q I rx ry h
  obtain ⟨d, ds, hd, he, sd, se, q⟩ := h
  obtain ⟨as, r1⟩ := Dp.reads I d x v hd rx
  rcases he with he | he
  · obtain ⟨bs, r2⟩ := Dp.reads I (.list ds) y u he ry
    exact SeqAt.in_list_reads r2 r1 (SeqAt.canLay_of_shaped se) (SeqAt.canLay_of_shaped sd) (PyProof.Rows.room_in_shaped sd hu) ⟨.bl _, H, I, rfl, q⟩
  · obtain ⟨bs, r2⟩ := Dp.reads I (.tuple ds) y u he ry
    exact SeqAt.in_tuple_reads r2 r1 (SeqAt.canLay_of_shaped se) (SeqAt.canLay_of_shaped sd) (PyProof.Rows.room_in_shaped sd hu) ⟨.bl _, H, I, rfl, q⟩
theorem op_notInDT (hu : X.A.units + 65 < cLine) : OpR X (compareOp .NotIn) (rInDT X.K true) := by
  intro pins s σ H x y v u Q I rx ry h
  obtain ⟨d, ds, hd, he, sd, se, q⟩ := h
  obtain ⟨as, r1⟩ := Dp.reads I d x v hd rx
  rcases he with he | he
  · obtain ⟨bs, r2⟩ := Dp.reads I (.list ds) y u he ry
    exact SeqAt.notIn_list_reads r2 r1 (SeqAt.canLay_of_shaped se) (SeqAt.canLay_of_shaped sd) (PyProof.Rows.room_in_shaped sd hu) ⟨.bl _, H, I, rfl, q⟩
  · obtain ⟨bs, r2⟩ := Dp.reads I (.tuple ds) y u he ry
    exact SeqAt.notIn_tuple_reads r2 r1 (SeqAt.canLay_of_shaped se) (SeqAt.canLay_of_shaped sd) (PyProof.Rows.room_in_shaped sd hu) ⟨.bl _, H, I, rfl, q⟩
/-- keys -/
def keyT : T → Option Key
  | .int i => some (.inl i)
  | .str x => some (.inr x)
  | _ => none
def keysT : List T → Option (List Key)
  | [] => some []
  | t :: ts => match keyT t, keysT ts with
    | some k, some ks => some (k :: ks)
    | _, _ => none
theorem keyT_rep {K : PySem.W.Frag} {w : World} {H : Hp} {ρ av : List Addr} {v : V} {t : T} {k : Key} (r : RepV K w H ρ av v t) (h : keyT t = some k) : v = kV k := by
  cases r <;> first | (cases h; rfl) | cases h
theorem keysT_rep {K : PySem.W.Frag} {w : World} {H : Hp} {ρ av : List Addr} : ∀ {vs : List V} {ts : List T} {ks : List Key}, RepVs K w H ρ av vs ts → keysT ts = some ks → vs = ks.map kV
  | _, _, _, .nil, h => by cases h; rfl
  | _, _, ks, .cons (t := t) (ts := ts) r rs, h => by
    unfold keysT at h
    cases e1 : keyT t with
    | none => simp only [e1] at h; cases h
    | some k =>
      cases e2 : keysT ts with
      | none => simp only [e1, e2] at h; cases h
      | some ks' =>
        simp only [e1, e2] at h
        cases h
        rw [keyT_rep r e1, keysT_rep rs e2]; rfl
/-- a table's value at a key -/
def getT {κ : Type} [DecidableEq κ] (kvs : List (κ × T)) (k : κ) : Option T := (kvs.find? fun kv => decide (kv.1 = k)).map (·.2)
theorem getT_rep {κ : Type} [DecidableEq κ] {K : PySem.W.Frag} {w : World} {H : Hp} {ρ av : List Addr} {k : κ} : ∀ {vs : List (κ × V)} {ts : List (κ × T)}, RepKd K w H ρ av vs ts → (∀ t, getT ts k = some t → ∃ v, valV vs k = some v ∧ RepV K w H ρ av v t) ∧ (getT ts k = none → valV vs k = none)
  | _, _, .nil => ⟨fun t h => by simp [getT] at h, fun _ => rfl⟩
  | p :: _, q :: _, .cons r rs => by
    obtain ⟨r1, r2⟩ := r
    have ih := getT_rep (k := k) rs
    by_cases e : p.1 = k
    · have e' : q.1 = k := r1 ▸ e
      have g1 : ∀ l : List (κ × T), getT (q :: l) k = some q.2 := fun l => by simp [getT, List.find?_cons, e']
      exact ⟨fun t h => ⟨p.2, valV_pos e, by rw [g1] at h; cases h; exact r2⟩, fun h => by rw [g1] at h; cases h⟩
    · have e' : ¬ q.1 = k := r1 ▸ e
      have g1 : ∀ l : List (κ × T), getT (q :: l) k = getT l k := fun l => by simp [getT, List.find?_cons, e']
      rw [g1, valV_neg e]
      exact ih
theorem RepKs.kd {K : PySem.W.Frag} {w : World} {H : Hp} {ρ av : List Addr} : ∀ {vs : List (Key × V)} {ts : List (Key × T)}, RepKs K w H ρ av vs ts → RepKd K w H ρ av vs ts
  | _, _, .nil => .nil
  | _, _, .cons r rs => .cons ⟨rfl, r⟩ (RepKs.kd rs)
/-- what a dict holds at a key; none: it is no dict, or no key of it -/
def dget (S : Sto) (d k : T) : Option (Option T) := match d with
  | .dic kvs => match k with
    | .str x => some (getT kvs (.inr x))
    | .int i => if !kvs.isEmpty && kvs.all (fun p => p.1.isLeft) then some (getT kvs (.inl i)) else none
    | _ => none
  | .ref i => match S[i]? with
    | some (.dK kvs) => (keyT k).map fun q => getT kvs q
    | some (.dT kvs) => match k with
      | .tup ts => (keysT ts).map fun q => getT kvs q
      | _ => none
    | _ => none
  | _ => none
/-- .. as it lies: the answer is there, of a table that is tracked or written -/
inductive DLook (K : PySem.W.Frag) (w : World) (H : Hp) (a : Addr) (y : V) : Option V → Prop
  | got {o} (h : DGet H a y o) : DLook K w H a y o
  | kd {es n z v u} (D : KDict K w a es n) (e : y = .str z) (h : PySem.W.nsIn K a z = some (some u)) (r : RelV v u) : DLook K w H a y (some v)
  | kn {es n z} (D : KDict K w a es n) (e : y = .str z) (h : PySem.W.nsIn K a z = some none) : DLook K w H a y none
theorem dget_rep {K : PySem.W.Frag} {w : World} {H : Hp} {ρ av : List Addr} {S : Sto} {d k : V} {td tk : T} {o : Option T} (hs : RepS K w H ρ av S) (rd : RepV K w H ρ av d td) (rk : RepV K w H ρ av k tk) (h : dget S td tk = some o) :
    ∃ a ov, d = .ref a ∧ DLook K w H a k ov ∧ (∀ t, o = some t → ∃ v, ov = some v ∧ RepV K w H ρ av v t) ∧ (o = none → ov = none) := by
  unfold dget at h
  cases rd with
  | @dic a kvs us hh h1 h2 r =>
    have key : ∀ q : Key, k = kV q → o = getT us q → ∃ a' ov, V.ref a = .ref a' ∧ DLook K w H a' k ov ∧ (∀ t, o = some t → ∃ v, ov = some v ∧ RepV K w H ρ av v t) ∧ (o = none → ov = none) := by
      intro q ek eo
      have g := getT_rep (k := q) r.kd
      refine ⟨a, valV kvs q, rfl, .got (.inl ⟨kvs, q, hh, ek, rfl⟩), fun t ht => ?_, fun hn => ?_⟩
      · obtain ⟨v, h1, h2⟩ := g.1 t (by rw [← eo]; exact ht); exact ⟨v, h1, h2⟩
      · exact g.2 (by rw [← eo]; exact hn)
    cases rk with
    | str x => simp only at h; cases h; exact key (.inr x) rfl rfl
    | int i =>
      simp only at h
      split at h
      · cases h; exact key (.inl i) rfl rfl
      · cases h
    | _ => cases h
  | @dicK a kvs us hh hx r =>
    obtain ⟨es, n, D, hv⟩ := hh
    cases rk with
    | str x =>
      simp only at h; cases h
      have g := getT_rep (k := (Sum.inr x : Key)) r.kd
      rcases hv x with ⟨v, u, e1, e2, e3⟩ | ⟨e1, e2⟩
      · refine ⟨a, some v, rfl, .kd D rfl e2 e3, fun t ht => ?_, fun hn => ?_⟩
        · obtain ⟨v', q1, q2⟩ := g.1 t ht
          rw [e1] at q1; cases q1
          exact ⟨v, rfl, q2⟩
        · have := g.2 hn; rw [e1] at this; cases this
      · refine ⟨a, none, rfl, .kn D rfl e2, fun t ht => ?_, fun _ => rfl⟩
        obtain ⟨v', q1, q2⟩ := g.1 t ht
        rw [e1] at q1; cases q1
    | int i =>
      simp only at h
      split at h
      · rename_i c
        exfalso
        cases r with
        | nil => simp at c
        | cons q qs =>
          obtain ⟨z, hz⟩ := hx _ List.mem_cons_self
          simp only at hz
          subst hz
          simp at c
      · cases h
    | _ => cases h
  | @ref a i hi =>
    obtain ⟨ob, ho, ro⟩ := hs.of_ref hi
    simp only [ho] at h
    cases ob with
    | dK us =>
      obtain ⟨kvs, h1, h2⟩ := ro
      simp only at h
      obtain ⟨q, e1, e2⟩ := Option.map_eq_some_iff.mp h
      have g := getT_rep (k := q) h2
      refine ⟨a, valV kvs q, rfl, .got (.inl ⟨kvs, q, .inl h1, keyT_rep rk e1, rfl⟩), fun t ht => ?_, fun hn => ?_⟩
      · obtain ⟨v, h1, h2⟩ := g.1 t (by rw [e2]; exact ht); exact ⟨v, h1, h2⟩
      · exact g.2 (by rw [e2]; exact hn)
    | dT us =>
      obtain ⟨kvs, h1, h2⟩ := ro
      cases rk with
      | @tup b vs ts hb rs =>
        simp only at h
        obtain ⟨q, e1, e2⟩ := Option.map_eq_some_iff.mp h
        have g := getT_rep (k := q) h2
        have ek := keysT_rep rs e1
        subst ek
        refine ⟨a, valV kvs q, rfl, .got (.inr ⟨kvs, q, b, .inl h1, rfl, hb, rfl⟩), fun t ht => ?_, fun hn => ?_⟩
        · obtain ⟨v, h1, h2⟩ := g.1 t (by rw [e2]; exact ht); exact ⟨v, h1, h2⟩
        · exact g.2 (by rw [e2]; exact hn)
      | _ => cases h
    | _ => cases h
  | _ => cases h
end
end Dn

namespace Dn
open PySem PySem.Spec L2
section
variable {X : DX} {W : WX} {pins : List (Addr × Obj)} {σ : L2.St} {H : Hp} {s : Shared} {a : Addr} {y v : V} {u r : Value} {o : Option V} {A : Around} {E : Value → Shared → Prop}
/-! ### dicts asked -/
theorem l_in {Q : Value → Shared → Prop} (hu : A.units + 1 < cLine) (I : Inv X pins σ H s) (g : DLook X.K X.w H a y o) (ry : RelV y u) (h : ∀ s', Inv X pins σ H s' → Q (.bool o.isSome) s') : wpAny (model X.prog X.w) A (compareOp .In u (.ref a)) Q E s := by
  cases g with
  | got g => exact d_in hu I g ry h
  | kd D e h1 r1 =>
    subst e
    obtain ⟨t, rfl⟩ := ry
    refine wpAny_in_of (PySem.strKind_is X.prog X.w _ t) D.low (PySem.W.mapOf_K (prog := X.prog) I.kIn D.at_ D.lit) ?_
    rw [PySem.W.find_K D.at_ h1]
    exact h _ (I.tok _)
  | kn D e h1 =>
    subst e
    obtain ⟨t, rfl⟩ := ry
    refine wpAny_in_of (PySem.strKind_is X.prog X.w _ t) D.low (PySem.W.mapOf_K (prog := X.prog) I.kIn D.at_ D.lit) ?_
    rw [PySem.W.find_K D.at_ h1]
    exact h _ (I.tok _)
theorem l_notIn {Q : Value → Shared → Prop} (hu : A.units + 1 < cLine) (I : Inv X pins σ H s) (g : DLook X.K X.w H a y o) (ry : RelV y u) (h : ∀ s', Inv X pins σ H s' → Q (.bool (!o.isSome)) s') : wpAny (model X.prog X.w) A (compareOp .NotIn u (.ref a)) Q E s := by
  cases g with
  | got g => exact d_notIn hu I g ry h
  | kd D e h1 r1 =>
    subst e
    obtain ⟨t, rfl⟩ := ry
    refine wpAny_notIn_of (PySem.strKind_is X.prog X.w _ t) D.low (PySem.W.mapOf_K (prog := X.prog) I.kIn D.at_ D.lit) ?_
    rw [PySem.W.find_K D.at_ h1]
    exact h _ (I.tok _)
  | kn D e h1 =>
    subst e
    obtain ⟨t, rfl⟩ := ry
    refine wpAny_notIn_of (PySem.strKind_is X.prog X.w _ t) D.low (PySem.W.mapOf_K (prog := X.prog) I.kIn D.at_ D.lit) ?_
    rw [PySem.W.find_K D.at_ h1]
    exact h _ (I.tok _)
end
section
variable {X : DX} {W : WX}
def rDLIn (K : PySem.W.Frag) (w : World) (neg : Bool) : R2 := fun y x H Q => ∃ a o, x = .ref a ∧ DLook K w H a y o ∧ Q (.bl (if neg then !o.isSome else o.isSome)) H
theorem op_dlin (hu : X.A.units + 1 < cLine) : OpR X (compareOp .In) (rDLIn X.K X.w false) := by
  intro pins s σ H x y v u Q I rx ry ⟨a, o, e, g, q⟩
  subst e
  obtain rfl : u = Value.ref a := ry
  exact l_in hu I g rx fun s' I' => ⟨.bl o.isSome, H, I', rfl, q⟩
theorem op_dlnotin (hu : X.A.units + 1 < cLine) : OpR X (compareOp .NotIn) (rDLIn X.K X.w true) := by
  intro pins s σ H x y v u Q I rx ry ⟨a, o, e, g, q⟩
  subst e
  obtain rfl : u = Value.ref a := ry
  exact l_notIn hu I g rx fun s' I' => ⟨.bl (!o.isSome), H, I', rfl, q⟩
/-- a sign, a text in a text -/
def inStr (x z : Str) : Bool := match x.cps.toList with
  | [c] => decide (c ∈ z.cps.toList)
  | _ => !(Builtin.Str.occurrences z x 0 z.length 1).isEmpty
def fIn (neg : Bool) : T → T → Sto → RE := fun x y S => match x, y with
  | .str x, .str z => .ok (.bl (if neg then !inStr x z else inStr x z)) S
  | x, y => match seqOf S y with
    | some ts => if fit (dato S x) && fit (.list (T.dats ts)) then .ok (.bl (if neg then !((T.dats ts).any fun z => PyData.eqv z (dato S x)) else (T.dats ts).any fun z => PyData.eqv z (dato S x))) S else .bad
    | none => match dget S y x with
      | some o => .ok (.bl (if neg then !o.isSome else o.isSome)) S
      | none => .bad
def rIn4 (K : PySem.W.Frag) (w : World) (neg : Bool) : R2 := fun x y H Q =>
  (∃ i j, x = .str i ∧ y = .str j ∧ Q (.bl (if neg then !(!(Builtin.Str.occurrences j i 0 j.length 1).isEmpty) else !(Builtin.Str.occurrences j i 0 j.length 1).isEmpty)) H) ∨
  (∃ (c : Nat) (z : Str), x = .str ⟨#[c]⟩ ∧ y = .str z ∧ Q (.bl (if neg then !decide (c ∈ z.cps.toList) else decide (c ∈ z.cps.toList))) H) ∨ rInDT K neg x y H Q ∨ rDLIn K w neg x y H Q
theorem hu1 {A : Around} (hu : A.units + 65 < cLine) : A.units + 1 < cLine := by omega
theorem or_in (hu : X.A.units + 65 < cLine) : OpR X (compareOp .In) (rIn4 X.K X.w false) := op_in_str.or (op_in_sign.or ((op_inDT hu).or (op_dlin (hu1 hu))))
theorem or_notIn (hu : X.A.units + 65 < cLine) : OpR X (compareOp .NotIn) (rIn4 X.K X.w true) := op_notIn_str.or (op_notIn_sign.or ((op_notInDT hu).or (op_dlnotin (hu1 hu))))
theorem od_in {neg : Bool} : OpD X (rIn4 X.K X.w neg) (fIn neg) := by
  intro W σ H ρ av S x y tx ty Q hs rx ry q
  unfold fIn at q
  split at q
  · rename_i x z
    cases rx.str_inv; cases ry.str_inv
    cases hx : x.cps.toList with
    | nil => simp only [inStr, hx] at q; exact .inl ⟨x, z, rfl, rfl, q.now hs (.bl _)⟩
    | cons c r =>
      cases r with
      | nil =>
        simp only [inStr, hx] at q
        have e : x = ⟨#[c]⟩ := by
          cases x with | mk cps =>
          simp only at hx
          congr
          exact Array.ext' hx
        subst e
        exact .inr (.inl ⟨c, z, rfl, rfl, q.now hs (.bl _)⟩)
      | cons d r' => simp only [inStr, hx] at q; exact .inl ⟨x, z, rfl, rfl, q.now hs (.bl _)⟩
  · split at q
    · rename_i ts hts
      split at q
      · rename_i c
        rw [Bool.and_eq_true] at c
        have hq : ∀ P : Prop, (Q (.bl (if neg then !((T.dats ts).any fun z => PyData.eqv z (dato S tx)) else (T.dats ts).any fun z => PyData.eqv z (dato S tx))) H → P) → P := fun P f => f (q.now hs (.bl _))
        obtain ⟨a, vs, rfl, hq2, rs⟩ := seq_rep hs ry hts
        have dl : DpAll X.K H vs (T.dats ts) := rs.dp (by
          have := lay_of_fit c.2
          simpa [PyData.canLay0] using this)
        exact .inr (.inr (.inl ⟨_, T.dats ts, rx.dpo hs c.1, hq2.imp (fun h => .lst h dl) (fun h => .tup h dl), c.1, c.2, q.now hs (.bl _)⟩))
      · exact q.elim
    · split at q
      · rename_i o ho
        obtain ⟨a, ov, rfl, g, h1, h2⟩ := dget_rep hs ry rx ho
        have e : ov.isSome = o.isSome := by
          cases o with
          | none => rw [h2 rfl]; rfl
          | some t => obtain ⟨v, e, _⟩ := h1 t rfl; rw [e]; rfl
        exact .inr (.inr (.inr ⟨a, ov, rfl, g, by rw [e]; exact q.now hs (.bl _)⟩))
      · exact q.elim

/-! is None, is a bool -/
def fIs (neg : Bool) : T → T → Sto → RE := fun x y S => match x, y with
  | .non, .non => .ok (.bl (!neg)) S
  | .bl a, .bl b => .ok (.bl (if neg then !decide (a = b) else decide (a = b))) S
  | .nlst _, _ => .bad
  | _, .non => .ok (.bl neg) S
  | _, _ => .bad
def rIs2 (neg : Bool) : R2 := fun x y H Q => (y = .non ∧ Q (.bl (if neg then !decide (x = .non) else decide (x = .non))) H) ∨ ∃ a b : Bool, x = .bl a ∧ y = .bl b ∧ Q (.bl (if neg then !decide (a = b) else decide (a = b))) H
theorem or_is : OpR X (compareOp .Is) (rIs2 false) := OpR.or op_isN op_isBl
theorem or_isnot : OpR X (compareOp .IsNot) (rIs2 true) := OpR.or op_notN op_notBl
theorem od_is {neg : Bool} : OpD X (rIs2 neg) (fIs neg) := by
  intro W σ H ρ av S x y tx ty Q hs rx ry q
  unfold fIs at q
  split at q
  · cases rx.non_inv; cases ry.non_inv
    refine .inl ⟨rfl, ?_⟩
    have := q.now hs (.bl _)
    cases neg <;> simpa using this
  · cases rx.bl_inv; cases ry.bl_inv
    exact .inr ⟨_, _, rfl, rfl, q.now hs (.bl _)⟩
  · exact q.elim
  · cases ry.non_inv
    refine .inl ⟨rfl, ?_⟩
    have ne : x ≠ .non := fun e => by
      subst e
      cases rx
      simp_all
    have := q.now hs (.bl _)
    rw [decide_eq_false ne]
    cases neg <;> simpa using this
  · exact q.elim

/-! ### comparisons as values, as tests -/
theorem le_cmp {op : CmpOp} {r : R2} {f : T → T → Sto → RE} {a b : Expr} {pos : Pos} {da db : DE} (ho : OpR X (compareOp op) r) (hf : OpD X r f) (ha : LE X W a da) (hb : LE X W b db) (hm : behindInMarks op b = false := by first | exact nomark _ | with_unfolding_all rfl) :
    LE X W (.Compare a [op] [b] pos) (dBin f da db) := le_bin hf (pe_cmpR ho ha hb hm)
theorem lt_cmp {op : CmpOp} {r : R2} {f : T → T → Sto → RE} {a b : Expr} {pos : Pos} {da db : DE} (ho : OpR X (compareOp op) r) (hf : OpD X r f) (ha : LE X W a da) (hb : LE X W b db) (hm : behindInMarks op b = false := by first | exact nomark _ | with_unfolding_all rfl) :
    LT X W (.Compare a [op] [b] pos) (dTest (dBin f da db)) := lt_of (low_bin hf) (pt_cmpR ho ha hb hm)
/-- a < b < c -/
def dChain (f g : T → T → Sto → RE) (da db dc : DE) : DE := fun sl S => (da sl S).bind fun x S1 => (db sl S1).bind fun y S2 => (f (fz x) (fz y) S2).bind fun z S3 => match z with
  | .bl true => (dc sl S3).bind fun u S4 => g (fz y) (fz u) S4
  | .bl false => .ok (.bl false) S3
  | _ => .bad
theorem low_chain {r r' : R2} {f g : T → T → Sto → RE} {da db dc : DE} (hf : OpD X r f) (hg : OpD X r' g) : Low X W (dChain f g da db dc) (tChain r r' (liftE X W da) (liftE X W db) (liftE X W dc)) := by
  intro σ H Q ⟨ρ, av, sl, S, hs, he, h⟩
  refine ⟨ρ, av, sl, S, hs, he, GoodE.step h fun t S1 _ v H1 ρ1 e1 s1 r1 g1 => ⟨ρ1, av, sl, S1, s1, he.ext e1, GoodE.step g1 fun t2 S2 _ v2 H2 ρ2 e2 s2 r2 g2 => ?_⟩⟩
  refine hf W σ H2 ρ2 av S2 v v2 _ _ _ s2 (r1.toV.ext e2) r2.toV (GoodE.step g2 fun z S3 _ vz H3 ρ3 e3 s3 r3 g3 => ?_)
  split at g3
  · cases RepV.bl_inv (r3 : RepV X.K X.w H3 ρ3 av vz (.bl true))
    refine ⟨true, rfl, ?_⟩
    rw [if_pos rfl]
    refine ⟨ρ3, av, sl, S3, s3, ((he.ext e1).ext e2).ext e3, GoodE.step g3 fun u S4 _ vu H4 ρ4 e4 s4 r4 g4 => ?_⟩
    exact hg W σ H4 ρ4 av S4 v2 vu _ _ Q s4 ((r2.toV.ext e3).ext e4) r4.toV g4
  · cases RepV.bl_inv (r3 : RepV X.K X.w H3 ρ3 av vz (.bl false))
    refine ⟨false, rfl, ?_⟩
    rw [if_neg Bool.false_ne_true]
    exact g3.now s3 (.bl false)
  · exact g3.elim
theorem le_chain {op op' : CmpOp} {r r' : R2} {f g : T → T → Sto → RE} {a b c : Expr} {pos : Pos} {da db dc : DE} (ho : OpR X (compareOp op) r) (hf : OpD X r f) (ho' : OpR X (compareOp op') r') (hg : OpD X r' g) (ha : LE X W a da) (hb : LE X W b db) (hc : LE X W c dc)
    (hm : lastMarks [op, op'] [b, c] = false := by with_unfolding_all rfl) : LE X W (.Compare a [op, op'] [b, c] pos) (dChain f g da db dc) := le_of (low_chain hf hg) (pe_chain ho ho' ha hb hc hm)
theorem lt_chain {op op' : CmpOp} {r r' : R2} {f g : T → T → Sto → RE} {a b c : Expr} {pos : Pos} {da db dc : DE} (ho : OpR X (compareOp op) r) (hf : OpD X r f) (ho' : OpR X (compareOp op') r') (hg : OpD X r' g) (ha : LE X W a da) (hb : LE X W b db) (hc : LE X W c dc)
    (hm : lastMarks [op, op'] [b, c] = false := by with_unfolding_all rfl) : LT X W (.Compare a [op, op'] [b, c] pos) (dTest (dChain f g da db dc)) := lt_of (low_chain hf hg) (pt_chain ho ho' ha hb hc hm)

/-! ### and, or, not, .. if .. else -/
abbrev LW (X : DX) (W : WX) (e : Expr) (d : DB) : Prop := PW X e (liftB X W d)
def RB.bind (r : RB) (f : Bool → Sto → RB) : RB := match r with
  | .ok b S => f b S
  | .exc c fs S => .exc c fs S
  | .bad => .bad
theorem GoodB.step {σ : L2.St} {H : Hp} {ρ av : List Addr} {Q : Bool → Hp → Prop} {r : RB} {f : Bool → Sto → RB} {Q1 : Bool → Hp → Prop} (g : GoodB X W σ H ρ av Q (r.bind f))
    (h : ∀ b S1, ∀ H1 ρ1, Ext H ρ H1 ρ1 → RepS X.K X.w H1 ρ1 av S1 → GoodB X W σ H1 ρ1 av Q (f b S1) → Q1 b H1) : GoodB X W σ H ρ av Q1 r := by
  cases r with
  | ok b S1 =>
    intro H1 ρ1 e s
    refine h b S1 H1 ρ1 e s ?_
    have g' : GoodB X W σ H ρ av Q (f b S1) := g
    revert g'
    cases f b S1 with
    | ok t2 S2 => exact fun g' H2 ρ2 e2 s2 => g' H2 ρ2 (e.trans e2) s2
    | exc c fs S2 => exact fun g' cls dd H2 ρ2 e2 s2 r2 => g' cls dd H2 ρ2 (e.trans e2) s2 r2
    | bad => exact fun g' => g'
  | exc c fs S1 => exact g
  | bad => exact g.elim
def dAnd (a b : DB) : DB := fun sl S => (a sl S).bind fun c S1 => if c then b sl S1 else .ok false S1
def dOr (a b : DB) : DB := fun sl S => (a sl S).bind fun c S1 => if c then .ok true S1 else b sl S1
def dNot (a : DB) : DB := fun sl S => (a sl S).bind fun c S1 => .ok (!c) S1
theorem lw_and1 {a : Expr} {pos : Pos} {da : DB} (ha : LT X W a da) : LW X W (.BoolOp .And [a] pos) da := pw_and1 ha
theorem lw_or1 {a : Expr} {pos : Pos} {da : DB} (ha : LT X W a da) : LW X W (.BoolOp .Or [a] pos) da := pw_or1 ha
theorem lw_and {a b : Expr} {rest : List Expr} {pos : Pos} {da db : DB} (ha : LT X W a da) (hb : LW X W (.BoolOp .And (b :: rest) pos) db) : LW X W (.BoolOp .And (a :: b :: rest) pos) (dAnd da db) :=
  (pw_and ha hb).imp fun σ H Q ⟨ρ, av, sl, S, hs, he, g⟩ => ⟨ρ, av, sl, S, hs, he, GoodB.step g fun c S1 H1 ρ1 e1 s1 g1 => by
    cases c with
    | true => rw [if_pos rfl]; exact ⟨ρ1, av, sl, S1, s1, he.ext e1, g1⟩
    | false => rw [if_neg Bool.false_ne_true]; exact g1 H1 ρ1 (Ext.refl _ _) s1⟩
theorem lw_or {a b : Expr} {rest : List Expr} {pos : Pos} {da db : DB} (ha : LT X W a da) (hb : LW X W (.BoolOp .Or (b :: rest) pos) db) : LW X W (.BoolOp .Or (a :: b :: rest) pos) (dOr da db) :=
  (pw_or ha hb).imp fun σ H Q ⟨ρ, av, sl, S, hs, he, g⟩ => ⟨ρ, av, sl, S, hs, he, GoodB.step g fun c S1 H1 ρ1 e1 s1 g1 => by
    cases c with
    | true => rw [if_pos rfl]; exact g1 H1 ρ1 (Ext.refl _ _) s1
    | false => rw [if_neg Bool.false_ne_true]; exact ⟨ρ1, av, sl, S1, s1, he.ext e1, g1⟩⟩
theorem lt_w {e : Expr} {d : DB} (h : LW X W e d) : LT X W e d := h.pt
theorem lt_not {a : Expr} {pos : Pos} {da : DB} (ha : LT X W a da) : LT X W (.UnaryOp .Not a pos) (dNot da) :=
  (pt_not ha).imp fun σ H Q ⟨ρ, av, sl, S, hs, he, g⟩ => ⟨ρ, av, sl, S, hs, he, GoodB.step g fun c S1 H1 ρ1 e1 s1 g1 => g1 H1 ρ1 (Ext.refl _ _) s1⟩
/-- .. as values (of bools) -/
def dAndV (a b : DE) : DE := fun sl S => (a sl S).bind fun x S1 => match x with
  | .bl true => b sl S1
  | .bl false => .ok (.bl false) S1
  | _ => .bad
def dOrV (a b : DE) : DE := fun sl S => (a sl S).bind fun x S1 => match x with
  | .bl true => .ok (.bl true) S1
  | .bl false => b sl S1
  | _ => .bad
def dNotV (a : DE) : DE := fun sl S => (a sl S).bind fun x S1 => match x with
  | .bl b => .ok (.bl (!b)) S1
  | _ => .bad
theorem le_one {op : BoolOp} {a : Expr} {pos : Pos} {da : DE} (h : LE X W a da) : LE X W (.BoolOp op [a] pos) da := pe_one h
theorem le_andV {a b : Expr} {rest : List Expr} {pos : Pos} {da db : DE} (ha : LE X W a da) (hb : LE X W (.BoolOp .And (b :: rest) pos) db) : LE X W (.BoolOp .And (a :: b :: rest) pos) (dAndV da db) :=
  (pe_and ha hb).imp fun σ H Q ⟨ρ, av, sl, S, hs, he, g⟩ => ⟨ρ, av, sl, S, hs, he, GoodE.step g fun t S1 _ v H1 ρ1 e1 s1 r1 g1 => by
    split at g1
    · cases RepV.bl_inv (r1 : RepV X.K X.w H1 ρ1 av v (.bl true))
      exact ⟨true, rfl, by rw [if_pos rfl]; exact ⟨ρ1, av, sl, S1, s1, he.ext e1, g1⟩⟩
    · cases RepV.bl_inv (r1 : RepV X.K X.w H1 ρ1 av v (.bl false))
      exact ⟨false, rfl, by rw [if_neg Bool.false_ne_true]; exact g1.now s1 (.bl false)⟩
    · exact g1.elim⟩
theorem le_orV {a b : Expr} {rest : List Expr} {pos : Pos} {da db : DE} (ha : LE X W a da) (hb : LE X W (.BoolOp .Or (b :: rest) pos) db) : LE X W (.BoolOp .Or (a :: b :: rest) pos) (dOrV da db) :=
  (pe_or ha hb).imp fun σ H Q ⟨ρ, av, sl, S, hs, he, g⟩ => ⟨ρ, av, sl, S, hs, he, GoodE.step g fun t S1 _ v H1 ρ1 e1 s1 r1 g1 => by
    split at g1
    · cases RepV.bl_inv (r1 : RepV X.K X.w H1 ρ1 av v (.bl true))
      exact ⟨true, rfl, by rw [if_pos rfl]; exact g1.now s1 (.bl true)⟩
    · cases RepV.bl_inv (r1 : RepV X.K X.w H1 ρ1 av v (.bl false))
      exact ⟨false, rfl, by rw [if_neg Bool.false_ne_true]; exact ⟨ρ1, av, sl, S1, s1, he.ext e1, g1⟩⟩
    · exact g1.elim⟩
theorem le_notV {a : Expr} {pos : Pos} {da : DE} (ha : LE X W a da) : LE X W (.UnaryOp .Not a pos) (dNotV da) :=
  (pe_not ha).imp fun σ H Q ⟨ρ, av, sl, S, hs, he, g⟩ => ⟨ρ, av, sl, S, hs, he, GoodE.step g fun t S1 _ v H1 ρ1 e1 s1 r1 g1 => by
    split at g1
    · rename_i b _
      cases RepV.bl_inv (r1 : RepV X.K X.w H1 ρ1 av v (.bl b))
      exact ⟨b, rfl, g1.now s1 (.bl _)⟩
    · exact g1.elim⟩
def RB.bindE (r : RB) (f : Bool → Sto → RE) : RE := match r with
  | .ok b S => f b S
  | .exc c fs S => .exc c fs S
  | .bad => .bad
theorem GoodE.ext {σ : L2.St} {H H1 : Hp} {ρ ρ1 av : List Addr} {Q : VK} {r : RE} (e : Ext H ρ H1 ρ1) (g : GoodE X W σ H ρ av Q r) : GoodE X W σ H1 ρ1 av Q r := by
  cases r with
  | ok t2 S2 => exact fun v2 H2 ρ2 e2 s2 r2 => g v2 H2 ρ2 (e.trans e2) s2 (r2.back e)
  | exc c fs S2 => exact fun cls dd H2 ρ2 e2 s2 r2 => g cls dd H2 ρ2 (e.trans e2) s2 r2
  | bad => exact g
theorem GoodB.stepE {σ : L2.St} {H : Hp} {ρ av : List Addr} {Q : VK} {r : RB} {f : Bool → Sto → RE} {Q1 : Bool → Hp → Prop} (g : GoodE X W σ H ρ av Q (r.bindE f))
    (h : ∀ b S1, ∀ H1 ρ1, Ext H ρ H1 ρ1 → RepS X.K X.w H1 ρ1 av S1 → GoodE X W σ H1 ρ1 av Q (f b S1) → Q1 b H1) : GoodB X W σ H ρ av Q1 r := by
  cases r with
  | ok b S1 => exact fun H1 ρ1 e s => h b S1 H1 ρ1 e s (GoodE.ext e g)
  | exc c fs S1 => exact g
  | bad => exact g.elim
def dIfE (c : DB) (a b : DE) : DE := fun sl S => (c sl S).bindE fun k S1 => if k then a sl S1 else b sl S1
theorem le_ifE {c a b : Expr} {pos : Pos} {dc : DB} {da db : DE} (hc : LT X W c dc) (ha : LE X W a da) (hb : LE X W b db) : LE X W (.IfExp c a b pos) (dIfE dc da db) :=
  (pe_ifExp hc ha hb).imp fun σ H Q ⟨ρ, av, sl, S, hs, he, g⟩ => ⟨ρ, av, sl, S, hs, he, GoodB.stepE g fun k S1 H1 ρ1 e1 s1 g1 => by
    cases k with
    | true => rw [if_pos rfl]; exact ⟨ρ1, av, sl, S1, s1, he.ext e1, g1⟩
    | false => rw [if_neg Bool.false_ne_true]; exact ⟨ρ1, av, sl, S1, s1, he.ext e1, g1⟩⟩
/-- a value's truth -/
def truT (S : Sto) : T → Option Bool
  | .non => some false
  | .bl b => some b
  | .int i => some (i != 0)
  | .str y => if y.length ≤ sizeLine then some ((y.length : Int) != 0) else none
  | t => match seqOf S t with
    | some ts => some (!ts.isEmpty)
    | none => none
def dTru (d : DE) : DB := fun sl S => match d sl S with
  | .ok t S' => (match truT S' (fz t) with | some b => .ok b S' | none => .bad)
  | .exc c fs S' => .exc c fs S'
  | .bad => .bad
theorem RepVs.isEmpty {K : PySem.W.Frag} {w : World} {H : Hp} {ρ av : List Addr} {vs : List V} {ts : List T} (r : RepVs K w H ρ av vs ts) : vs.isEmpty = ts.isEmpty := by cases r <;> rfl
theorem lt_tru {d : DE} {e : Expr} (h : LE X W e d) (he : ∀ whole, isTrue e X.env whole = (do let v ← whole; standAt e.pos; holding [v] (truthy v)) := by intro _; rfl) : LT X W e (dTru d) :=
  (pt_truth h he).imp fun σ H Q ⟨ρ, av, sl, S, hs, hE, g⟩ => ⟨ρ, av, sl, S, hs, hE, by
    unfold dTru at g
    cases hd : d sl S with
    | ok t S' =>
      rw [hd] at g
      intro v H' ρ' e s r
      have s := s.ofN
      simp only at g
      cases ht : truT S' (fz t) with
      | none => rw [ht] at g; exact g.elim
      | some b =>
        rw [ht] at g
        refine ⟨b, ?_, g H' ρ' e s⟩
        have rv := r.toV
        generalize fz t = t' at ht rv
        cases t' with
        | non => cases rv; cases ht; rfl
        | bl c => cases rv; cases ht; rfl
        | int i => cases rv; cases ht; rfl
        | str x =>
          cases rv
          simp only [truT] at ht
          split at ht
          · rename_i hl; cases ht; exact ⟨hl, rfl⟩
          · cases ht
        | _ =>
          simp only [truT] at ht
          split at ht
          · rename_i ts hts
            cases ht
            obtain ⟨a, vs, rfl, q, rs⟩ := seq_rep s rv hts
            rw [← rs.isEmpty]
            rcases q with q | q
            · exact .inl ⟨vs, q, rfl⟩
            · exact .inr (.inl ⟨vs, q, rfl⟩)
          · cases ht
    | exc c fs S' => rw [hd] at g; exact g
    | bad => rw [hd] at g; exact g⟩
end
end Dn

namespace Dn
open PySem PySem.Spec L2
theorem _root_.L2.PE.or {X : Cx} {e : Expr} {t u : TE} (h : PE X e t) (k : PE X e u) : PE X e (fun σ H Q => t σ H Q ∨ u σ H Q) := ⟨fun pins s σ H Q I q => q.elim (h.run pins s σ H Q I) (k.run pins s σ H Q I)⟩
section
variable {X : DX} {W : WX}

/-! ### o[i] -/
theorem dl_type {pins : List (Addr × Obj)} {σ : L2.St} {H : Hp} {s : Shared} {a : Addr} {y : V} {o : Option V} (I : Inv X pins σ H s) (g : DLook X.K X.w H a y o) : s.TypeIs (.ref a) "dict" := by
  cases g with
  | got g => exact dict_typeIs I g
  | kd D _ _ _ => exact kd_type D I
  | kn D _ _ => exact kd_type D I
theorem dl_get {pins : List (Addr × Obj)} {σ : L2.St} {H : Hp} {s : Shared} {a : Addr} {y v : V} {u : Value} {A : Around} {E : Value → Shared → Prop} {Q : Value → Shared → Prop} (hu : A.units + 1 < cLine) (I : Inv X pins σ H s) (g : DLook X.K X.w H a y (some v)) (ry : RelV y u)
    (h : ∀ w' s', Inv X pins σ H s' → RelV v w' → Q w' s') : wpAny (model X.prog X.w) A (getItem (.ref a) u) Q E s := by
  cases g with
  | got g => exact d_getItem hu I g ry h
  | kd D e h1 r1 =>
    subst e
    obtain ⟨t, rfl⟩ := ry
    exact wpAny_getItem_of (PySem.strKind_is X.prog X.w _ t) (PySem.W.mapOf_K (prog := X.prog) I.kIn D.at_ D.lit) (PySem.W.find_K D.at_ h1) (h _ _ (I.tok _) r1)
theorem ix_dl (hu : X.A.units + 1 < cLine) : IxR X (fun x y H Q => ∃ a v, x = .ref a ∧ DLook X.K X.w H a y (some v) ∧ Q v H) := by
  intro value slice pins s σ H x y v u Q I rx ry h hs
  obtain ⟨a, v0, rfl, g, q⟩ := h
  obtain rfl : v = Value.ref a := rx
  exact PyProof.Rows.tail_any (dl_type I g) PySem.F.slot_dict_getitem.lookup (dl_get hu I g ry fun w' s3 I3 rw' => ⟨v0, H, I3, rw', q⟩) hs
def fIx : T → T → Sto → RE := fun x y S => match x, y with
  | .str z, .int i => if z.length ≤ sizeLine then (match atI z.cps.toList i with | some c => .ok (.str ⟨#[c]⟩) S | none => .bad) else .bad
  | x, y => match seqOf S x, y with
    | some ts, .int i => (match atI ts i with | some t => .ok t S | none => .bad)
    | _, _ => match dget S x y with
      | some (some t) => .ok t S
      | _ => .bad
def rIx4 (K : PySem.W.Frag) (w : World) : R2 := fun x y H Q => rIx K x y H Q ∨ ∃ a v, x = .ref a ∧ DLook K w H a y (some v) ∧ Q v H
theorem RepVs.atI {K : PySem.W.Frag} {w : World} {H : Hp} {ρ av : List Addr} {vs : List V} {ts : List T} {i : Int} {t : T} (r : RepVs K w H ρ av vs ts) (h : L2.atI ts i = some t) : ∃ v, L2.atI vs i = some v ∧ RepV K w H ρ av v t := by
  unfold L2.atI at h ⊢
  rw [r.length]
  cases e : ixN ts.length i with
  | none => rw [e] at h; cases h
  | some j => rw [e] at h; exact r.get h
theorem od_ix : OpD X (rIx4 X.K X.w) fIx := by
  intro W σ H ρ av S x y tx ty Q hs rx ry q
  unfold fIx at q
  split at q
  · cases rx.str_inv; cases ry.int_inv
    split at q
    · rename_i hl
      split at q
      · rename_i c hc
        exact .inl (.inr (.inr ⟨_, _, _, rfl, rfl, hl, hc, q.now hs (.str _)⟩))
      · exact q.elim
    · exact q.elim
  · split at q
    · rename_i ts i hts _
      cases ry.int_inv
      split at q
      · rename_i t ht
        obtain ⟨a, vs, rfl, hq, rs⟩ := seq_rep hs rx hts
        obtain ⟨v, hv, rv⟩ := rs.atI ht
        rcases hq with hq | hq
        · exact .inl (.inl ⟨_, _, _, _, rfl, rfl, hq, hv, q.now hs rv⟩)
        · exact .inl (.inr (.inl ⟨_, _, _, _, rfl, rfl, hq, hv, q.now hs rv⟩))
      · exact q.elim
    · split at q
      · rename_i t ht
        obtain ⟨a, ov, rfl, g, h1, _⟩ := dget_rep hs rx ry ht
        obtain ⟨v, e, rv⟩ := h1 t rfl
        subst e
        exact .inr ⟨a, v, rfl, g, q.now hs rv⟩
      · exact q.elim
theorem le_ix {o i : Expr} {pos : Pos} {da db : DE} (hu : X.A.units + 65 < cLine) (ho : LE X W o da) (hi : LE X W i db) (hs : PlainIx i := by intro _ _; rfl) : LE X W (.Subscript o i pos) (dBin fIx da db) :=
  le_bin od_ix (pe_ix (ix_seq.or (ix_dl (hu1 hu))) ho hi hs)

/-! ### o[i:j] -/
inductive RO where
  | ok (t : Option Int) (S : Sto) | exc (c : Str) (fs : Flds) (S : Sto) | bad
abbrev DO := Sl → Sto → RO
def GoodO (X : DX) (W : WX) (σ : L2.St) (H : Hp) (ρ av : List Addr) (Q : Option Int → Hp → Prop) : RO → Prop
  | .ok b S' => ∀ H' ρ', Ext H ρ H' ρ' → RepS X.K X.w H' ρ' av S' → Q b H'
  | .exc c fs S' => ∀ cls dd H' ρ', Ext H ρ H' ρ' → RepS X.K X.w H' ρ' av S' → RepX X.K X.w H' ρ' av X.mg cls dd c fs → W cls dd σ H'
  | .bad => False
def liftO (X : DX) (W : WX) (d : DO) : TO := fun σ H Q => ∃ ρ av sl S, RepS X.K X.w H ρ av S ∧ RepE X.K X.w X.pin H ρ av σ sl ∧ GoodO X W σ H ρ av Q (d sl S)
abbrev LO (X : DX) (W : WX) (e : Option Expr) (d : DO) : Prop := PO X e (liftO X W d)
def RO.bindE (r : RO) (f : Option Int → Sto → RE) : RE := match r with
  | .ok b S => f b S
  | .exc c fs S => .exc c fs S
  | .bad => .bad
theorem GoodO.stepE {σ : L2.St} {H : Hp} {ρ av : List Addr} {Q : VK} {r : RO} {f : Option Int → Sto → RE} {Q1 : Option Int → Hp → Prop} (g : GoodE X W σ H ρ av Q (r.bindE f))
    (h : ∀ b S1, ∀ H1 ρ1, Ext H ρ H1 ρ1 → RepS X.K X.w H1 ρ1 av S1 → GoodE X W σ H1 ρ1 av Q (f b S1) → Q1 b H1) : GoodO X W σ H ρ av Q1 r := by
  cases r with
  | ok b S1 => exact fun H1 ρ1 e s => h b S1 H1 ρ1 e s (GoodE.ext e g)
  | exc c fs S1 => exact g
  | bad => exact g.elim
def dNoPart : DO := fun _ S => .ok none S
def dPart (d : DE) : DO := fun sl S => match d sl S with
  | .ok (.int i) S' => .ok (some i) S'
  | .ok _ _ => .bad
  | .exc c fs S' => .exc c fs S'
  | .bad => .bad
theorem _root_.L2.PO.imp {X : Cx} {e : Option Expr} {t t' : TO} (h : PO X e t) (f : ∀ σ H Q, t' σ H Q → t σ H Q) : PO X e t' := ⟨fun pins s σ H Q I q => h.run pins s σ H Q I (f σ H Q q)⟩
theorem lo_none : LO X W none dNoPart := po_none.imp fun σ H Q ⟨ρ, av, sl, S, hs, he, g⟩ => g H ρ (Ext.refl _ _) hs
theorem lo_some {e : Expr} {d : DE} (h : LE X W e d) : LO X W (some e) (dPart d) := (po_some h).imp fun σ H Q ⟨ρ, av, sl, S, hs, he, g⟩ => ⟨ρ, av, sl, S, hs, he, by
  unfold dPart at g
  cases hd : d sl S with
  | ok t S' =>
    rw [hd] at g
    cases t with
    | int i =>
      intro v H' ρ' e s r
      cases RepV.int_inv (r : RepV X.K X.w H' ρ' av v (.int i))
      exact ⟨i, rfl, g H' ρ' e s⟩
    | _ => exact g.elim
  | exc c fs S' => rw [hd] at g; exact g
  | bad => rw [hd] at g; exact g⟩
def cutT {α : Type} (xs : List α) (lo hi : Option Int) : List α := (xs.drop (HT.sIx xs.length 0 lo)).take (HT.sIx xs.length xs.length hi - HT.sIx xs.length 0 lo)
def fSl (x : T) (lo hi : Option Int) (S : Sto) : RE := match x with
  | .str z => if z.length ≤ sizeLine then .ok (.str (cutS z lo hi)) S else .bad
  | .tup ts => .ok (.tup (cutT ts lo hi)) S
  | x => match lstOf S x with
    | some ts => .ok (.nlst (cutT ts lo hi)) S
    | none => .bad
def rSl4 (K : PySem.W.Frag) : V → Option Int → Option Int → Hp → VK → Prop := fun x lo hi H Q => rSlA K x lo hi H Q ∨ rSlL K x lo hi H Q ∨ rSlS x lo hi H Q
theorem sl_any : SlR X (rSl4 X.K) := sl_tupA.or (sl_list.or sl_str)
theorem od_sl {σ : L2.St} {H : Hp} {ρ av : List Addr} {S : Sto} {x : V} {tx : T} {lo hi : Option Int} {Q : VK} (hs : RepS X.K X.w H ρ av S) (rx : RepV X.K X.w H ρ av x tx) (q : GoodE X W σ H ρ av Q (fSl tx lo hi S)) : rSl4 X.K x lo hi H Q := by
  unfold fSl at q
  split at q
  · cases rx.str_inv
    split at q
    · rename_i hl
      exact .inr (.inr ⟨_, rfl, hl, q.now hs (.str _)⟩)
    · exact q.elim
  · rename_i ts
    obtain ⟨a, vs, rfl, ha, ra⟩ := tup_rep rx
    refine .inl ⟨a, vs, rfl, ha, fun e => ?_, fun e p hp => ?_⟩
    · rw [ra.length] at e
      have ec : cutT ts lo hi = ts := by
        unfold cutT
        rw [e.1, e.2]
        simp
      rw [ec] at q
      exact q.now hs rx
    · have ev : cutV vs lo hi = (vs.drop (HT.sIx ts.length 0 lo)).take (HT.sIx ts.length ts.length hi - HT.sIx ts.length 0 lo) := by unfold cutV; rw [ra.length]
      rw [ev]
      exact q.newTup hs ((ra.drop _).take _) hp
  · split at q
    · rename_i ts hts
      obtain ⟨a, vs, rfl, ha, ra⟩ := lst_rep hs rx hts
      have ev : cutV vs lo hi = (vs.drop (HT.sIx ts.length 0 lo)).take (HT.sIx ts.length ts.length hi - HT.sIx ts.length 0 lo) := by unfold cutV; rw [ra.length]
      exact .inr (.inl ⟨a, vs, rfl, ha, fun p hp => by rw [ev]; exact q.newLst hs ((ra.drop _).take _) hp⟩)
    · exact q.elim
def dSl (da : DE) (dl dh : DO) : DE := fun sl S => (da sl S).bind fun x S1 => (dl sl S1).bindE fun l S2 => (dh sl S2).bindE fun u S3 => fSl (fz x) l u S3
theorem le_sl {e : Expr} {lo hi : Option Expr} {p2 pos : Pos} {da : DE} {dl dh : DO} (he : LE X W e da) (hl : LO X W lo dl) (hh : LO X W hi dh) : LE X W (.Subscript e (.Slice lo hi none p2) pos) (dSl da dl dh) :=
  (pe_slice sl_any he hl hh).imp fun σ H Q ⟨ρ, av, sl, S, hs, hE, g⟩ => ⟨ρ, av, sl, S, hs, hE, GoodE.step g fun t S1 _ v H1 ρ1 e1 s1 r1 g1 =>
    ⟨ρ1, av, sl, S1, s1, hE.ext e1, GoodO.stepE g1 fun l S2 H2 ρ2 e2 s2 g2 => ⟨ρ2, av, sl, S2, s2, (hE.ext e1).ext e2, GoodO.stepE g2 fun u S3 H3 ρ3 e3 s3 g3 => od_sl s3 ((r1.toV.ext e2).ext e3) g3⟩⟩⟩
/-- xs[::-1], of a list or of a tuple -/
def fRev : T → Sto → RE := fun x S => match x with
  | .tup ts => .ok (.tup ts.reverse) S
  | x => match lstOf S x with
    | some ts => .ok (.nlst ts.reverse) S
    | none => .bad
theorem le_rev {e : Expr} {k : Nat} {p1 p2 p3 pos : Pos} {da : DE} (he : LE X W e da) : LE X W (.Subscript e (.Slice none none (some (.UnaryOp .USub (.Constant (.int 1) k p1) p2)) p3) pos) (dUn fRev da) :=
  (pe_revA he).imp fun σ H Q ⟨ρ, av, sl, S, hs, hE, g⟩ => ⟨ρ, av, sl, S, hs, hE, GoodE.step g fun t S1 _ v H1 ρ1 e1 s1 r1 g1 => by
    unfold fRev at g1
    split at g1
    · rename_i ts hts
      have r2 := r1.toV
      rw [hts] at r2
      obtain ⟨a, vs, rfl, ha, ra⟩ := tup_rep r2
      exact .inr ⟨a, vs, rfl, ha, fun p hp => g1.newTup s1 ra.reverse hp⟩
    · split at g1
      · rename_i ts hts
        obtain ⟨a, vs, rfl, ha, ra⟩ := lst_rep s1 r1.toV hts
        exact .inl ⟨a, vs, rfl, ha, fun p hp => g1.newLst s1 ra.reverse hp⟩
      · exact g1.elim⟩

/-! ### arguments, displays -/
def RA.bind (r : RA) (f : List T → Sto → RE) : RE := match r with
  | .ok ts S => f ts S
  | .exc c fs S => .exc c fs S
  | .bad => .bad
theorem GoodA.step {σ : L2.St} {H : Hp} {ρ av : List Addr} {Q : VK} {r : RA} {f : List T → Sto → RE} {Q1 : List V → Hp → Prop} (g : GoodE X W σ H ρ av Q (r.bind f))
    (h : ∀ ts S1, ∀ vs H1 ρ1, Ext H ρ H1 ρ1 → RepS X.K X.w H1 ρ1 av S1 → RepVs X.K X.w H1 ρ1 av vs ts → GoodE X W σ H1 ρ1 av Q (f ts S1) → Q1 vs H1) : GoodA X W σ H ρ av Q1 r := by
  cases r with
  | ok ts S1 => exact fun vs H1 ρ1 e s rr => h ts S1 vs H1 ρ1 e s rr (GoodE.ext e g)
  | exc c fs S1 => exact g
  | bad => exact g.elim
def dNil : DA := fun _ S => .ok [] S
def dCons (d : DE) (r : DA) : DA := fun sl S => match d sl S with
  | .ok t S1 => (match r sl S1 with
    | .ok ts S2 => .ok (fz t :: ts) S2
    | .exc c fs S2 => .exc c fs S2
    | .bad => .bad)
  | .exc c fs S1 => .exc c fs S1
  | .bad => .bad
theorem la_nil : LA X W [] dNil := pa_nil.imp fun σ H Q ⟨ρ, av, sl, S, hs, he, g⟩ => g [] H ρ (Ext.refl _ _) hs .nil
theorem la_cons {e : Expr} {es : List Expr} {d : DE} {r : DA} (h : LE X W e d) (hr : LA X W es r) (hst : starEach (e :: es) X.env = (false, eval e X.env) :: starEach es X.env := by rfl) : LA X W (e :: es) (dCons d r) :=
  (pa_cons h hr hst).imp fun σ H Q ⟨ρ, av, sl, S, hs, he, g⟩ => ⟨ρ, av, sl, S, hs, he, by
    unfold dCons at g
    cases hd : d sl S with
    | ok t S1 =>
      rw [hd] at g
      intro v H1 ρ1 e1 s1 r1
      have s1 := s1.ofN
      refine ⟨ρ1, av, sl, S1, s1, he.ext e1, ?_⟩
      cases hr' : r sl S1 with
      | ok ts S2 =>
        simp only [hr'] at g
        exact fun vs H2 ρ2 e2 s2 r2 => g (v :: vs) H2 ρ2 (e1.trans e2) s2 (.cons (r1.toV.ext e2) r2)
      | exc c fs S2 => simp only [hr'] at g; exact fun cls dd H2 ρ2 e2 s2 r2 => g cls dd H2 ρ2 (e1.trans e2) s2 r2
      | bad => simp only [hr'] at g; exact g
    | exc c fs S1 => rw [hd] at g; exact g
    | bad => rw [hd] at g; exact g⟩
def dTup (d : DA) : DE := fun sl S => (d sl S).bind fun ts S1 => if ts.length ≤ sizeLine then .ok (.tup ts) S1 else .bad
theorem le_tup {es : List Expr} {x1 : Nat} {pos : Pos} {d : DA} (h : LA X W es d) : LE X W (.Tuple es x1 pos) (dTup d) :=
  (pe_tup h).imp fun σ H Q ⟨ρ, av, sl, S, hs, he, g⟩ => ⟨ρ, av, sl, S, hs, he, GoodA.step g fun ts S1 vs H1 ρ1 e1 s1 r1 g1 => by
    split at g1
    · rename_i hl
      exact ⟨by rw [r1.length]; exact hl, fun p hp => g1.newTup s1 r1 hp⟩
    · exact g1.elim⟩
def dLst (d : DA) : DE := fun sl S => (d sl S).bind fun ts S1 => if ts.length ≤ sizeLine then .ok (.nlst ts) S1 else .bad
theorem le_lst {es : List Expr} {pos : Pos} {d : DA} (h : LA X W es d) : LE X W (.List es pos) (dLst d) :=
  (pe_lst h).imp fun σ H Q ⟨ρ, av, sl, S, hs, he, g⟩ => ⟨ρ, av, sl, S, hs, he, GoodA.step g fun ts S1 vs H1 ρ1 e1 s1 r1 g1 => by
    split at g1
    · rename_i hl
      exact ⟨by rw [r1.length]; exact hl, fun p hp => g1.newLst s1 r1 hp⟩
    · exact g1.elim⟩

/-! ### built-ins by values -/
def OpDs (X : DX) (r : List V → Hp → VK → Prop) (f : List T → Sto → RE) : Prop := ∀ (W : WX) (σ : L2.St) (H : Hp) (ρ av : List Addr) (S : Sto) (vs : List V) (ts : List T) (Q : VK),
  RepS X.K X.w H ρ av S → RepVs X.K X.w H ρ av vs ts → GoodE X W σ H ρ av Q (f ts S) → r vs H Q
def dCall (f : List T → Sto → RE) (d : DA) : DE := fun sl S => (d sl S).bind f
theorem le_blt {r : List V → Hp → VK → Prop} {f : List T → Sto → RE} {d : DA} {e : Expr} (hf : OpDs X r f) (h : PE X e (tCB r (liftA X W d))) : LE X W e (dCall f d) :=
  h.imp fun σ H Q ⟨ρ, av, sl, S, hs, he, g⟩ => ⟨ρ, av, sl, S, hs, he, GoodA.step g fun ts S1 vs H1 ρ1 e1 s1 r1 g1 => hf W σ H1 ρ1 av S1 vs ts Q s1 r1 g1⟩
end
end Dn

namespace Dn
open PySem PySem.Spec L2
section
variable {X : DX} {W : WX}

/-! ### statements -/
theorem GoodS.ext {H H1 : Hp} {ρ ρ1 av : List Addr} {n : Nat} {D : Ends} {r : RS} (e : Ext H ρ H1 ρ1) (g : GoodS X W H ρ av n D r) : GoodS X W H1 ρ1 av n D r := by
  cases r with
  | nx sl S => exact fun σ' H' ρ' e' s' r' hl => g σ' H' ρ' (e.trans e') s' r' hl
  | bk sl S => exact fun σ' H' ρ' e' s' r' hl => g σ' H' ρ' (e.trans e') s' r' hl
  | ct sl S => exact fun σ' H' ρ' e' s' r' hl => g σ' H' ρ' (e.trans e') s' r' hl
  | rt t S => exact fun v H' ρ' e' s' r' => g v H' ρ' (e.trans e') s' (r'.back e)
  | exc c fs sl S => exact fun cls dd σ' H' ρ' e' s' r' hl rx => g cls dd σ' H' ρ' (e.trans e') s' r' hl rx
  | bad => exact g
def RE.toS (r : RE) (sl : Sl) (f : T → Sto → RS) : RS := match r with
  | .ok t S => f t S
  | .exc c fs S => .exc c fs sl S
  | .bad => .bad
/-- an expression within a statement -/
theorem GoodS.expr {σ : L2.St} {sl : Sl} {H : Hp} {ρ av : List Addr} {D : Ends} {r : RE} {f : T → Sto → RS} {Q : VK} (g : GoodS X W H ρ av σ.length D (r.toS sl f)) (he : RepE X.K X.w X.pin H ρ av σ sl)
    (h : ∀ t S1, ∀ v H1 ρ1, Ext H ρ H1 ρ1 → RepS X.K X.w H1 ρ1 (avN v t av) S1 → RepR X.K X.w H1 ρ1 av H v t → GoodS X W H ρ av σ.length D (f t S1) → Q v H1) : GoodE X W σ H ρ av Q r := by
  cases r with
  | ok t S1 => exact fun v H1 ρ1 e s rr => h t S1 v H1 ρ1 e s rr g
  | exc c fs S1 => exact fun cls dd H1 ρ1 e s rx => g cls dd σ H1 ρ1 e s (he.ext e) rfl rx
  | bad => exact g.elim
def RB.toS (r : RB) (sl : Sl) (f : Bool → Sto → RS) : RS := match r with
  | .ok t S => f t S
  | .exc c fs S => .exc c fs sl S
  | .bad => .bad
theorem GoodS.test {σ : L2.St} {sl : Sl} {H : Hp} {ρ av : List Addr} {D : Ends} {r : RB} {f : Bool → Sto → RS} {Q : Bool → Hp → Prop} (g : GoodS X W H ρ av σ.length D (r.toS sl f)) (he : RepE X.K X.w X.pin H ρ av σ sl)
    (h : ∀ t S1, ∀ H1 ρ1, Ext H ρ H1 ρ1 → RepS X.K X.w H1 ρ1 av S1 → GoodS X W H1 ρ1 av σ.length D (f t S1) → Q t H1) : GoodB X W σ H ρ av Q r := by
  cases r with
  | ok t S1 => exact fun H1 ρ1 e s => h t S1 H1 ρ1 e s (g.ext e)
  | exc c fs S1 => exact fun cls dd H1 ρ1 e s rx => g cls dd σ H1 ρ1 e s (he.ext e) rfl rx
  | bad => exact g.elim
theorem RepE.set {K : PySem.W.Frag} {w : World} {pn : Option Pin} {H : Hp} {ρ av : List Addr} {σ : L2.St} {sl : Sl} {v : V} {t : T} (he : RepE K w pn H ρ av σ sl) (r : RepV K w H ρ av v t) (i : Nat) : RepE K w pn H ρ av (σ.set i (some v)) (sl.set i (some t)) := by
  refine ⟨by rw [List.length_set, List.length_set]; exact he.len, fun j u h => ?_, fun p hp => ?_⟩
  rotate_left
  · obtain ⟨h1, h2, h3, h4, h5⟩ := he.pin p hp
    refine ⟨h1, h2, h3, h4, fun z => ?_⟩
    by_cases hj : i = p.i
    · rw [hj] at z
      by_cases hl : p.i < sl.length
      · rw [List.getElem?_set_self hl] at z; cases z
      · rw [List.getElem?_eq_none (by simpa using hl)] at z; cases z
    · rw [List.getElem?_set_ne hj] at z ⊢; exact h5 z
  by_cases hj : i = j
  · subst hj
    have hl : i < sl.length := by
      have := (List.getElem?_eq_some_iff.mp h).1
      rwa [List.length_set] at this
    rw [List.getElem?_set_self hl] at h
    cases h
    exact ⟨v, by rw [List.getElem?_set_self (by rw [he.len]; exact hl)], r⟩
  · rw [List.getElem?_set_ne hj] at h
    obtain ⟨x, h1, h2⟩ := he.at_ j u h
    exact ⟨x, by rw [List.getElem?_set_ne hj]; exact h1, h2⟩
theorem RepE.ren {K : PySem.W.Frag} {w : World} {pn : Option Pin} {H : Hp} {ρ av : List Addr} {σ : L2.St} {sl : Sl} (he : RepE K w pn H ρ av σ sl) {i : Nat} {t : T} (h : ∀ v, σ[i]? = some (some v) → RepV K w H ρ av v t) (hs : ∃ v, σ[i]? = some (some v)) : RepE K w pn H ρ av σ (sl.set i (some t)) := by
  refine ⟨by rw [List.length_set]; exact he.len, fun j u h2 => ?_, fun p hp => ?_⟩
  rotate_left
  · obtain ⟨h1, h2, h3, h4, h5⟩ := he.pin p hp
    refine ⟨h1, h2, h3, h4, fun z => ?_⟩
    by_cases hj : i = p.i
    · rw [hj] at z
      by_cases hl : p.i < sl.length
      · rw [List.getElem?_set_self hl] at z; cases z
      · rw [List.getElem?_eq_none (by simpa using hl)] at z; cases z
    · rw [List.getElem?_set_ne hj] at z; exact h5 z
  by_cases hj : i = j
  · subst hj
    have hl : i < sl.length := by
      have := (List.getElem?_eq_some_iff.mp h2).1
      rwa [List.length_set] at this
    rw [List.getElem?_set_self hl] at h2
    cases h2
    obtain ⟨v, hv⟩ := hs
    exact ⟨v, hv, h v hv⟩
  · rw [List.getElem?_set_ne hj] at h2
    exact he.at_ j u h2

def dNext : DS := fun sl S => .nx sl S
def dSeq (a b : DS) : DS := fun sl S => match a sl S with
  | .nx sl' S' => b sl' S'
  | r => r
theorem lss_nil : LSs X W [] dNext := pss_nil.imp fun D σ H ⟨ρ, av, sl, S, hs, he, g⟩ => g σ H ρ (Ext.refl _ _) hs he rfl
theorem lss_cons {st : Stmt} {rest : List Stmt} {a b : DS} (ha : LS X W st a) (hb : LSs X W rest b) : LSs X W (st :: rest) (dSeq a b) :=
  (pss_cons ha hb).imp fun D σ H ⟨ρ, av, sl, S, hs, he, g⟩ => ⟨ρ, av, sl, S, hs, he, by
    unfold dSeq at g
    cases h : a sl S with
    | nx sl' S' =>
      rw [h] at g
      exact fun σ' H' ρ' e s r hl => ⟨ρ', av, sl', S', s, r, by rw [hl]; exact GoodS.ext e g⟩
    | bk sl' S' => rw [h] at g; exact g
    | ct sl' S' => rw [h] at g; exact g
    | rt t S' => rw [h] at g; exact g
    | exc c fs sl' S' => rw [h] at g; exact g
    | bad => rw [h] at g; exact g⟩
theorem lss_one {st : Stmt} {a : DS} (ha : LS X W st a) : LSs X W [st] a := pss_one ha
theorem ls_pass {pos : Pos} : LS X W (.Pass pos) dNext := ps_pass.imp fun D σ H ⟨ρ, av, sl, S, hs, he, g⟩ => g σ H ρ (Ext.refl _ _) hs he rfl
def dBreak : DS := fun sl S => .bk sl S
def dCont : DS := fun sl S => .ct sl S
theorem ls_break {pos : Pos} : LS X W (.Break pos) dBreak := ps_break.imp fun D σ H ⟨ρ, av, sl, S, hs, he, g⟩ => g σ H ρ (Ext.refl _ _) hs he rfl
theorem ls_cont {pos : Pos} : LS X W (.Continue pos) dCont := ps_continue.imp fun D σ H ⟨ρ, av, sl, S, hs, he, g⟩ => g σ H ρ (Ext.refl _ _) hs he rfl
def dExpr (d : DE) : DS := fun sl S => (d sl S).toS sl fun _ S1 => .nx sl S1
theorem ls_expr {e : Expr} {pos : Pos} {d : DE} (h : LE X W e d) (hsw : swapsWith e none pos.line X.env = pure false := by rfl) : LS X W (.Expr e pos) (dExpr d) :=
  (ps_expr h hsw).imp fun D σ H ⟨ρ, av, sl, S, hs, he, g⟩ => ⟨ρ, av, sl, S, hs, he, GoodS.expr g he fun t S1 v H1 ρ1 e1 s1 r1 g1 => g1 σ H1 ρ1 e1 s1.ofN (he.ext e1) rfl⟩
def dRet (d : DE) : DS := fun sl S => (d sl S).toS sl fun t S1 => .rt t S1
theorem ls_ret {e : Expr} {pos : Pos} {d : DE} (h : LE X W e d) : LS X W (.Return (some e) pos) (dRet d) :=
  (ps_ret h).imp fun D σ H ⟨ρ, av, sl, S, hs, he, g⟩ => ⟨ρ, av, sl, S, hs, he, GoodS.expr g he fun t S1 v H1 ρ1 e1 s1 r1 g1 => g1 v H1 ρ1 e1 s1 r1⟩
def dRetN : DS := fun sl S => .rt .non S
theorem ls_retN {pos : Pos} : LS X W (.Return none pos) dRetN := ps_retN.imp fun D σ H ⟨ρ, av, sl, S, hs, he, g⟩ => g .non H ρ (Ext.refl _ _) hs .non
def dIf (c : DB) (a b : DS) : DS := fun sl S => (c sl S).toS sl fun k S1 => if k then a sl S1 else b sl S1
theorem ls_if {c : Expr} {a b : List Stmt} {pos : Pos} {dc : DB} {da db : DS} (hc : LT X W c dc) (ha : LSs X W a da) (hb : LSs X W b db) : LS X W (.If c a b pos) (dIf dc da db) :=
  (ps_if hc ha hb).imp fun D σ H ⟨ρ, av, sl, S, hs, he, g⟩ => ⟨ρ, av, sl, S, hs, he, GoodS.test g he fun k S1 H1 ρ1 e1 s1 g1 => by
    cases k with
    | true => rw [if_pos rfl]; exact ⟨ρ1, av, sl, S1, s1, he.ext e1, g1⟩
    | false => rw [if_neg Bool.false_ne_true]; exact ⟨ρ1, av, sl, S1, s1, he.ext e1, g1⟩⟩
/-- x = e, a list frozen -/
def dSet (i : Nat) (d : DE) : DS := fun sl S => (d sl S).toS sl fun t S1 => .nx (sl.set i (some (fz t))) S1
theorem ls_set {i : Nat} {st : Stmt} {d : DE} (h : PS X st (tAsg (liftE X W d) (gName i))) : LS X W st (dSet i d) :=
  h.imp fun D σ H ⟨ρ, av, sl, S, hs, he, g⟩ => ⟨ρ, av, sl, S, hs, he, GoodS.expr g he fun t S1 v H1 ρ1 e1 s1 r1 g1 =>
    g1 _ H1 ρ1 e1 s1.ofN ((he.ext e1).set r1.toV i) (by rw [List.length_set])⟩
/-- x = e, a list made just now goes to the store -/
def dSetM (i : Nat) (d : DE) : DS := fun sl S => (d sl S).toS sl fun t S1 => match t with
  | .nlst ts => .nx (sl.set i (some (.ref S1.length))) (S1 ++ [.lst ts])
  | t => .nx (sl.set i (some t)) S1
end
section
variable {K : PySem.W.Frag} {w : World} {H H' H0 : Hp} {ρ ρ' av av' : List Addr}
mutual
theorem RepV.push {p : Addr} : ∀ {v : V} {t : T}, RepV K w H ρ (p :: av) v t → RepV K w H (ρ ++ [p]) av v t
  | _, _, .non => .non
  | _, _, .bl b => .bl b
  | _, _, .int b => .int b
  | _, _, .str b => .str b
  | _, _, .tup h r => .tup h (RepVs.push r)
  | _, _, .tupK h r => .tupK h (RepVs.push r)
  | _, _, .lst h h1 h2 r => .lst h (fun z => (List.mem_append.mp z).elim h1 fun q => h2 (by rw [List.mem_singleton.mp q]; exact List.mem_cons_self)) (fun z => h2 (List.mem_cons_of_mem _ z)) (RepVs.push r)
  | _, _, .flst h r => .flst h (RepVs.push r)
  | _, _, .ref h => .ref (by rw [List.getElem?_append_left (List.getElem?_eq_some_iff.mp h).1]; exact h)
  | _, _, .dic h h1 h2 r => .dic h (fun z => (List.mem_append.mp z).elim h1 fun q => h2 (by rw [List.mem_singleton.mp q]; exact List.mem_cons_self)) (fun z => h2 (List.mem_cons_of_mem _ z)) (RepKs.push r)
  | _, _, .dicK h hx r => .dicK h hx (RepKs.push r)
theorem RepVs.push {p : Addr} : ∀ {v : List V} {t : List T}, RepVs K w H ρ (p :: av) v t → RepVs K w H (ρ ++ [p]) av v t
  | _, _, .nil => .nil
  | _, _, .cons r rs => .cons (RepV.push r) (RepVs.push rs)
theorem RepKs.push {p : Addr} : ∀ {v : List (Key × V)} {t : List (Key × T)}, RepKs K w H ρ (p :: av) v t → RepKs K w H (ρ ++ [p]) av v t
  | _, _, .nil => .nil
  | _, _, .cons r rs => .cons (RepV.push r) (RepKs.push rs)
end
theorem RepO.push {p a : Addr} {o : MO} (h : RepO K w H ρ (p :: av) a o) : RepO K w H (ρ ++ [p]) av a o := by
  cases o with
  | lst ts => obtain ⟨vs, h1, h2⟩ := h; exact ⟨vs, h1, h2.push⟩
  | dK ts => obtain ⟨vs, h1, h2⟩ := h; exact ⟨vs, h1, Paired.mono (fun _ _ h => ⟨h.1, h.2.push⟩) h2⟩
  | dT ts => obtain ⟨vs, h1, h2⟩ := h; exact ⟨vs, h1, Paired.mono (fun _ _ h => ⟨h.1, h.2.push⟩) h2⟩
  | ins c fs => exact h
/-- an avoided address becomes one of the store's -/
theorem RepS.push {S : Sto} {p : Addr} {o : MO} (s : RepS K w H ρ (p :: av) S) (hp : p ∉ av) (ro : RepO K w H (ρ ++ [p]) av p o) : RepS K w H (ρ ++ [p]) av (S ++ [o]) := by
  obtain ⟨h1, h2⟩ := s.out p List.mem_cons_self
  refine ⟨by simp [s.len], ?_, fun i a ob g1 g2 => ?_, fun a ha => ?_⟩
  · rw [List.nodup_append]
    exact ⟨s.nd, by simp, fun a ha b hb e => h2 (by rw [List.mem_singleton] at hb; rw [← hb, ← e]; exact ha)⟩
  · by_cases hi : i < ρ.length
    · rw [List.getElem?_append_left hi] at g1
      rw [List.getElem?_append_left (by rw [← s.len]; exact hi)] at g2
      exact (s.obj i a ob g1 g2).push
    · have hl := (List.getElem?_eq_some_iff.mp g1).1
      have e : i = ρ.length := by simp at hl; omega
      subst e
      rw [List.getElem?_append_right (Nat.le_refl _)] at g1
      rw [s.len, List.getElem?_append_right (Nat.le_refl _)] at g2
      simp at g1 g2
      subst g1 g2
      exact ro
  · obtain ⟨q1, q2⟩ := s.out a (List.mem_cons_of_mem _ ha)
    exact ⟨q1, fun z => (List.mem_append.mp z).elim q2 fun q => hp (by rw [List.mem_singleton] at q; rw [← q]; exact ha)⟩
end
section
variable {X : DX} {W : WX}
theorem ls_setM {i : Nat} {st : Stmt} {d : DE} (h : PS X st (tAsg (liftE X W d) (gName i))) : LS X W st (dSetM i d) :=
  h.imp fun D σ H ⟨ρ, av, sl, S, hs, he, g⟩ => ⟨ρ, av, sl, S, hs, he, GoodS.expr g he fun t S1 v H1 ρ1 e1 s1 r1 g1 => by
    cases t with
    | nlst ts =>
      obtain ⟨a, vs, rfl, h0, ha, n1, n2, rs⟩ := r1
      have e2 : Ext H ρ H1 (ρ1 ++ [a]) := ⟨by obtain ⟨n, q⟩ := e1.pre; exact ⟨n ++ [a], by rw [q, List.append_assoc]⟩, fun b hb => by
        rcases List.mem_append.mp hb with q | q
        · exact e1.new b q
        · rw [List.mem_singleton.mp q]; exact .inr h0, e1.keep, e1.imm, e1.dom⟩
      -- what stood ahead does not tell of it: a was not there
      have old : ∀ {v : V} {t : T}, RepV X.K X.w H ρ av v t → RepV X.K X.w H1 (ρ1 ++ [a]) av v t := fun r => ((r.more h0).ext e1).push
      have rs2 : RepVs X.K X.w H1 (ρ1 ++ [a]) av vs ts := rs.push
      refine g1 _ H1 (ρ1 ++ [a]) e2 (RepS.push s1 n2 ⟨vs, ha, rs2⟩) ?_ (by rw [List.length_set])
      have he1 : RepE X.K X.w X.pin H1 (ρ1 ++ [a]) av σ sl := he.to old fun d vs z1 z2 z3 => ⟨e1.keep _ _ z2 z1, fun z => (List.mem_append.mp z).elim (e1.notin (by rw [z1]; simp) z2) fun z => (by rw [List.mem_singleton] at z; rw [z, h0] at z1; cases z1), z3⟩
      refine he1.set (.ref ?_) i
      have hl : ρ1.length = _ := s1.len
      rw [← hl, List.getElem?_append_right (Nat.le_refl _)]
      simp
    | _ => exact g1 _ H1 ρ1 e1 s1.ofN ((he.ext e1).set (show RepV X.K X.w H1 ρ1 av v _ from r1) i) (by rw [List.length_set])⟩
end
end Dn

namespace Dn
open PySem PySem.Spec L2
section
variable {X : DX} {W : WX}

/-! ### targets -/
abbrev DG := T → Sl → Sto → Option (Sl × Sto)
abbrev DGs := List T → Sl → Sto → Option (Sl × Sto)
def GoodG (X : DX) (H : Hp) (ρ av : List Addr) (n : Nat) (Q : L2.St → Hp → Prop) : Option (Sl × Sto) → Prop
  | some (sl', S') => ∀ σ' H' ρ', Ext H ρ H' ρ' → RepS X.K X.w H' ρ' av S' → RepE X.K X.w X.pin H' ρ' av σ' sl' → σ'.length = n → Q σ' H'
  | none => False
def liftG (X : DX) (d : DG) : TG := fun v σ H Q => ∃ ρ av sl S t, RepS X.K X.w H ρ av S ∧ RepE X.K X.w X.pin H ρ av σ sl ∧ RepV X.K X.w H ρ av v t ∧ GoodG X H ρ av σ.length Q (d t sl S)
def liftGs (X : DX) (d : DGs) : TGs := fun vs σ H Q => ∃ ρ av sl S ts, RepS X.K X.w H ρ av S ∧ RepE X.K X.w X.pin H ρ av σ sl ∧ RepVs X.K X.w H ρ av vs ts ∧ GoodG X H ρ av σ.length Q (d ts sl S)
abbrev LG (X : DX) (e : Expr) (d : DG) : Prop := PG X e (liftG X d)
abbrev LGs (X : DX) (es : List Expr) (d : DGs) : Prop := PGs X es (liftGs X d)
theorem _root_.L2.PG.imp {X : Cx} {e : Expr} {t t' : TG} (h : PG X e t) (f : ∀ v σ H Q, t' v σ H Q → t v σ H Q) : PG X e t' := ⟨fun pins s σ H v u Q I r q => h.run pins s σ H v u Q I r (f v σ H Q q)⟩
theorem _root_.L2.PGs.imp {X : Cx} {e : List Expr} {t t' : TGs} (h : PGs X e t) (f : ∀ v σ H Q, t' v σ H Q → t v σ H Q) : PGs X e t' := ⟨fun pins s σ H v u Q I r q => h.run pins s σ H v u Q I r (f v σ H Q q)⟩
def gN (i : Nat) : DG := fun t sl S => some (sl.set i (some t), S)
theorem lg_name {e : Expr} {i : Nat} (h : PG X e (gName i)) : LG X e (gN i) := h.imp fun v σ H Q ⟨ρ, av, sl, S, t, hs, he, r, g⟩ => g _ H ρ (Ext.refl _ _) hs (he.set r i) (by rw [List.length_set])
def gsNil : DGs := fun ts sl S => match ts with
  | [] => some (sl, S)
  | _ => none
def gsCons (g : DG) (r : DGs) : DGs := fun ts sl S => match ts with
  | t :: us => (match g t sl S with
    | some (sl', S') => r us sl' S'
    | none => none)
  | [] => none
theorem lgs_nil : LGs X [] gsNil := pgs_nil.imp fun vs σ H Q ⟨ρ, av, sl, S, ts, hs, he, r, g⟩ => by
  cases r with
  | nil => exact ⟨rfl, g σ H ρ (Ext.refl _ _) hs he rfl⟩
  | cons _ _ => exact g.elim
theorem GoodG.ext {H H1 : Hp} {ρ ρ1 av : List Addr} {n : Nat} {Q : L2.St → Hp → Prop} {r : Option (Sl × Sto)} (e : Ext H ρ H1 ρ1) (g : GoodG X H ρ av n Q r) : GoodG X H1 ρ1 av n Q r := by
  cases r with
  | none => exact g
  | some p => exact fun σ' H' ρ' e' s r hl => g σ' H' ρ' (e.trans e') s r hl
theorem lgs_cons {e : Expr} {es : List Expr} {g : DG} {r : DGs} (h1 : LG X e g) (h2 : LGs X es r) (hs : (assignEach (e :: es) X.env).map (·.2) = assign e X.env :: (assignEach es X.env).map (·.2) := by rfl) : LGs X (e :: es) (gsCons g r) :=
  (pgs_cons h1 h2 hs).imp fun vs σ H Q ⟨ρ, av, sl, S, ts, hs, he, rv, q⟩ => by
    cases rv with
    | nil => exact q.elim
    | @cons v t vs ts rv rvs =>
      refine ⟨v, vs, rfl, ρ, av, sl, S, t, hs, he, rv, ?_⟩
      unfold gsCons at q
      simp only at q
      cases e1 : g t sl S with
      | none => rw [e1] at q; exact q.elim
      | some p =>
        rw [e1] at q
        exact fun σ' H' ρ' e' s' r' hl => ⟨ρ', av, p.1, p.2, ts, s', r', rvs.ext e', by rw [hl]; exact GoodG.ext e' q⟩
def tupOf : T → Option (List T)
  | .tup ts => some ts
  | .ktup ts => some ts
  | _ => none
theorem tupOf_rep {K : PySem.W.Frag} {w : World} {H : Hp} {ρ av : List Addr} {v : V} {t : T} {ts : List T} (r : RepV K w H ρ av v t) (h : tupOf t = some ts) : ∃ a vs, v = .ref a ∧ SqT K H a vs ∧ RepVs K w H ρ av vs ts := by
  cases r with
  | tup h' rs => cases h; exact ⟨_, _, rfl, .inl (.inl h'), rs⟩
  | tupK h' rs => cases h; exact ⟨_, _, rfl, .inr h', rs⟩
  | _ => cases h
def gT (n : Nat) (g : DGs) : DG := fun t sl S => match tupOf t with
  | some ts => if ts.length = n then g ts sl S else none
  | none => none
theorem lg_tup {es : List Expr} {k : Nat} {pos : Pos} {g : DGs} {n : Nat} (hc : X.calm = true) (h : LGs X es g) (hn : (assignEach es X.env).length = n := by rfl) (hst : (assignEach es X.env).findIdx? (·.1) = none := by rfl) : LG X (.Tuple es k pos) (gT n g) :=
  (pg_tup hc h hn hst).imp fun v σ H Q ⟨ρ, av, sl, S, t, hs, he, r, q⟩ => by
    unfold gT at q
    split at q
    · rename_i ts hts
      split at q
      · rename_i hl
        obtain ⟨a, vs, rfl, ha, rs⟩ := tupOf_rep r hts
        exact ⟨a, vs, rfl, ha, by rw [rs.length]; exact hl, ρ, av, sl, S, ts, hs, he, rs, q⟩
      · exact q.elim
    · exact q.elim
/-- target = e -/
def dAsg (d : DE) (g : DG) : DS := fun sl S => (d sl S).toS sl fun t S1 => match g (fz t) sl S1 with
  | some (sl', S') => .nx sl' S'
  | none => .bad
theorem ls_asg {tg e : Expr} {pos : Pos} {d : DE} {g : DG} (he : LE X W e d) (hg : LG X tg g) (hs : swapsWithSole [tg] e pos.line X.env = pure false := by rfl) (hw : swappedStores [tg] e X.env = pure none := by rfl)
    (h1 : (assignEach [tg] X.env).map (·.2) = [assign tg X.env] := by rfl) : LS X W (.Assign [tg] e pos) (dAsg d g) :=
  (ps_asg he hg hs hw h1).imp fun D σ H ⟨ρ, av, sl, S, hs, hE, q⟩ => ⟨ρ, av, sl, S, hs, hE, GoodS.expr q hE fun t S1 v H1 ρ1 e1 s1 r1 g1 => ⟨ρ1, av, sl, S1, fz t, s1.ofN, hE.ext e1, r1.toV, by
    split at g1
    · rename_i sl' S' h
      rw [h]
      exact fun σ' H' ρ' e' s r hl => g1 σ' H' ρ' (e1.trans e') s r hl
    · exact g1.elim⟩⟩

/-! o[i] = v -/
def dput (S : Sto) (d k v : T) : Option Sto := match d with
  | .ref i => match S[i]? with
    | some (.lst ts) => (match k with
      | .int z => (match ixN ts.length z with
        | some j => some (S.set i (.lst (ts.set j v)))
        | none => none)
      | _ => none)
    | some (.dK kvs) => (match keyT k with
      | some q => if kvs.length < sizeLine then some (S.set i (.dK (if (kvs.any fun kv => decide (kv.1 = q)) = true then kvs.map (fun kv => if kv.1 = q then (kv.1, v) else kv) else kvs ++ [(q, v)]))) else none
      | none => none)
    | some (.dT kvs) => (match k with
      | .tup ts => (match keysT ts with
        | some q => if kvs.length < sizeLine then some (S.set i (.dT (if (kvs.any fun kv => decide (kv.1 = q)) = true then kvs.map (fun kv => if kv.1 = q then (kv.1, v) else kv) else kvs ++ [(q, v)]))) else none
        | none => none)
      | _ => none)
    | _ => none
  | _ => none
theorem RepKd.map {κ : Type} [DecidableEq κ] {K : PySem.W.Frag} {w : World} {H : Hp} {ρ av : List Addr} {k : κ} {v : V} {t : T} (rv : RepV K w H ρ av v t) : ∀ {vs : List (κ × V)} {ts : List (κ × T)}, RepKd K w H ρ av vs ts →
    RepKd K w H ρ av (vs.map (fun kv => if kv.1 = k then (kv.1, v) else kv)) (ts.map (fun kv => if kv.1 = k then (kv.1, t) else kv))
  | _, _, .nil => .nil
  | p :: _, q :: _, .cons h rs => by
    refine .cons ?_ (RepKd.map rv rs)
    by_cases e : q.1 = k
    · have e' : p.1 = k := h.1.trans e
      simp only [e, e', if_true]
      exact ⟨trivial, rv⟩
    · have e' : ¬ p.1 = k := fun z => e (h.1.symm.trans z)
      simp only [e, e', if_false]
      exact h
theorem RepKd.app {κ : Type} {K : PySem.W.Frag} {w : World} {H : Hp} {ρ av : List Addr} {k : κ} {v : V} {t : T} (rv : RepV K w H ρ av v t) : ∀ {vs : List (κ × V)} {ts : List (κ × T)}, RepKd K w H ρ av vs ts → RepKd K w H ρ av (vs ++ [(k, v)]) (ts ++ [(k, t)])
  | _, _, .nil => .cons ⟨rfl, rv⟩ .nil
  | _, _, .cons h rs => .cons h (RepKd.app rv rs)
theorem RepKd.any {κ : Type} [DecidableEq κ] {K : PySem.W.Frag} {w : World} {H : Hp} {ρ av : List Addr} {k : κ} : ∀ {vs : List (κ × V)} {ts : List (κ × T)}, RepKd K w H ρ av vs ts → (vs.any fun kv => decide (kv.1 = k)) = ts.any fun kv => decide (kv.1 = k)
  | _, _, .nil => rfl
  | _, _, .cons h rs => by simp only [List.any_cons, h.1, RepKd.any rs]
theorem RepKd.put {κ : Type} [DecidableEq κ] {K : PySem.W.Frag} {w : World} {H : Hp} {ρ av : List Addr} {k : κ} {v : V} {t : T} (rv : RepV K w H ρ av v t) {vs : List (κ × V)} {ts : List (κ × T)} (r : RepKd K w H ρ av vs ts) :
    RepKd K w H ρ av (putK vs k v) (if (ts.any fun kv => decide (kv.1 = k)) = true then ts.map (fun kv => if kv.1 = k then (kv.1, t) else kv) else ts ++ [(k, t)]) := by
  unfold putK
  rw [RepKd.any r]
  split
  · exact RepKd.map rv r
  · exact RepKd.app rv r
def rSet2 (K : PySem.W.Frag) : TSet := fun o i v H Q => rSetL o i v H Q ∨ rSetD o i v H Q
theorem _root_.L2.PSet.or {X : Cx} {t u : TSet} (h : PSet X t) (k : PSet X u) : PSet X (fun o i v H Q => t o i v H Q ∨ u o i v H Q) := fun pins s σ H o i v ov iv u Q I ro ri rv q => q.elim (h pins s σ H o i v ov iv u Q I ro ri rv) (k pins s σ H o i v ov iv u Q I ro ri rv)
theorem set_any (hu : X.A.units + 65 < cLine) : PSet X (rSet2 X.K) := PSet.or set_list (set_dict (hu1 hu))
/-- a written store -/
theorem RepE.write {K : PySem.W.Frag} {w : World} {pn : Option Pin} {H : Hp} {ρ av : List Addr} {S : Sto} {σ : L2.St} {sl : Sl} (he : RepE K w pn H ρ av σ sl) (hs : RepS K w H ρ av S) {i : Nat} {a : Addr} (h : ρ[i]? = some a) (o : HO) : RepE K w pn (upd H a o) ρ av σ sl := he.ext (Ext.write hs h o)
theorem od_put {H : Hp} {ρ av : List Addr} {S S' : Sto} {o i v : V} {to ti tv : T} {Q : Hp → Prop} (hs : RepS X.K X.w H ρ av S) (ro : RepV X.K X.w H ρ av o to) (ri : RepV X.K X.w H ρ av i ti) (rv : RepV X.K X.w H ρ av v tv) (h : dput S to ti tv = some S')
    (q : ∀ H', Ext H ρ H' ρ → RepS X.K X.w H' ρ av S' → Q H') : rSet2 X.K o i v H Q := by
  unfold dput at h
  split at h
  · rename_i n
    cases ro with
    | @ref a _ ha =>
      obtain ⟨ob, hob, rob⟩ := hs.of_ref ha
      rw [hob] at h
      cases ob with
      | lst ts =>
        simp only at h
        split at h
        · rename_i z
          cases ri.int_inv
          split at h
          · rename_i j hj
            cases h
            obtain ⟨vs, h1, h2⟩ := rob
            refine .inl ⟨a, vs, z, j, rfl, rfl, h1, by rw [h2.length]; exact hj, q _ (Ext.write hs ha _) (hs.write ha ⟨_, upd_same, RepVs.set (rv.ext (Ext.write hs ha _)) j (h2.ext (Ext.write hs ha _))⟩)⟩
          · cases h
        · cases h
      | dK kvs =>
        simp only at h
        split at h
        · rename_i k hk
          split at h
          · rename_i hl
            cases h
            obtain ⟨vs, h1, h2⟩ := rob
            refine .inr ⟨a, _, rfl, .inl ⟨vs, k, h1, keyT_rep ri hk, by rw [Paired.length h2]; exact hl, rfl⟩, q _ (Ext.write hs ha _) (hs.write ha ⟨_, upd_same, RepKd.put (rv.ext (Ext.write hs ha _)) (h2.ext (Ext.write hs ha _))⟩)⟩
          · cases h
        · cases h
      | dT kvs =>
        simp only at h
        split at h
        · rename_i ts
          split at h
          · rename_i k hk
            split at h
            · rename_i hl
              cases h
              obtain ⟨vs, h1, h2⟩ := rob
              cases ri with
              | @tup b us _ hb rs =>
                have e := keysT_rep rs hk
                subst e
                refine .inr ⟨a, _, rfl, .inr ⟨vs, k, b, h1, rfl, hb, by rw [Paired.length h2]; exact hl, rfl⟩, q _ (Ext.write hs ha _) (hs.write ha ⟨_, upd_same, RepKd.put (rv.ext (Ext.write hs ha _)) (h2.ext (Ext.write hs ha _))⟩)⟩
            · cases h
          · cases h
        · cases h
      | ins c fs => cases h
  · cases h
/-- o[i] as a target; what o and i tell must not raise -/
def gSubD (d1 d2 : DE) : DG := fun t sl S => match d1 sl S with
  | .ok o S1 => (match d2 sl S1 with
    | .ok i S2 => (match dput S2 (fz o) (fz i) t with
      | some S3 => some (sl, S3)
      | none => none)
    | _ => none)
  | _ => none
theorem lg_sub {o i : Expr} {pos : Pos} {d1 d2 : DE} (hu : X.A.units + 65 < cLine) (ho : LE X W o d1) (hi : LE X W i d2)
    (ha : ∀ v, assign (.Subscript o i pos) X.env v = (do
      let ov ← holding [v] (eval o X.env)
      let iv ← holding [v, ov] (eval i X.env)
      standAt pos
      holding [v, ov, iv] (setItem ov iv v)
      release [v, ov, iv] []) := by intro _; rfl) : LG X (.Subscript o i pos) (gSubD d1 d2) :=
  (pg_sub ho hi (set_any hu) ha).imp fun v σ H Q ⟨ρ, av, sl, S, t, hs, he, r, q⟩ => ⟨ρ, av, sl, S, hs, he, by
    unfold gSubD at q
    cases e1 : d1 sl S with
    | exc c fs S1 => rw [e1] at q; exact q.elim
    | bad => rw [e1] at q; exact q.elim
    | ok to S1 =>
      rw [e1] at q
      intro ov H1 ρ1 x1 s1 r1
      have s1 := s1.ofN
      refine ⟨ρ1, av, sl, S1, s1, he.ext x1, ?_⟩
      cases e2 : d2 sl S1 with
      | exc c fs S2 => simp only [e2] at q; exact q.elim
      | bad => simp only [e2] at q; exact q.elim
      | ok ti S2 =>
        simp only [e2] at q
        intro iv H2 ρ2 x2 s2 r2
        have s2 := s2.ofN
        cases e3 : dput S2 (fz to) (fz ti) t with
        | none => rw [e3] at q; exact q.elim
        | some S3 =>
          rw [e3] at q
          refine od_put s2 (r1.toV.ext x2) r2.toV ((r.ext x1).ext x2) e3 fun H3 x3 s3 => ?_
          exact q σ H3 ρ2 ((x1.trans x2).trans x3) s3 (((he.ext x1).ext x2).ext x3) rfl⟩

/-! x op= e -/
def dAug (i : Nat) (f : T → T → Sto → RE) (d : DE) : DS := fun sl S => match sl[i]? with
  | some (some t0) => (d sl S).toS sl fun t S1 => (f t0 (fz t) S1).toS sl fun r S2 => .nx (sl.set i (some (fz r))) S2
  | _ => .bad
theorem ls_aug {i : Nat} {st : Stmt} {r : R2} {f : T → T → Sto → RE} {d : DE} (hf : OpD X r f) (h : PS X st (tAug i (liftE X W d) r)) : LS X W st (dAug i f d) :=
  h.imp fun D σ H ⟨ρ, av, sl, S, hs, he, g⟩ => by
    unfold dAug at g
    split at g
    · rename_i t0 h0
      obtain ⟨v0, hv, r0⟩ := he.at_ i t0 h0
      refine ⟨v0, hv, ρ, av, sl, S, hs, he, GoodS.expr g he fun t S1 v H1 ρ1 e1 s1 r1 g1 => ?_⟩
      refine hf W σ H1 ρ1 av S1 v0 v t0 (fz t) _ s1.ofN (r0.ext e1) r1.toV (GoodS.expr (g1.ext e1) (he.ext e1) fun z S2 vz H2 ρ2 e2 s2 r2 g2 => ?_)
      exact g2 _ H2 ρ2 e2 s2.ofN (((he.ext e1).ext e2).set r2.toV i) (by rw [List.length_set])
    · exact g.elim
def fAddI : T → T → Sto → RE := fun x y S => match x, y with
  | .int i, .int j => .ok (.int (i + j)) S
  | .str a, .str b => if a.length + b.length ≤ sizeLine then .ok (.str (a ++ b)) S else .bad
  | _, _ => .bad
def rAddI : R2 := fun x y H Q => rI0 (fun i j => .int (i + j)) x y H Q ∨ (∃ i j, x = .str i ∧ y = .str j ∧ i.length + j.length ≤ sizeLine ∧ Q (.str (i ++ j)) H)
theorem iop_addI : OpR X (inplaceOp .Add) rAddI := iop_add.or iop_add_str
theorem od_addI : OpD X rAddI fAddI := by
  intro W σ H ρ av S x y tx ty Q hs rx ry q
  unfold fAddI at q
  split at q
  · cases rx.int_inv; cases ry.int_inv
    exact .inl ⟨_, _, rfl, rfl, q.now hs (.int _)⟩
  · cases rx.str_inv; cases ry.str_inv
    split at q
    · rename_i hl
      exact .inr ⟨_, _, rfl, rfl, hl, q.now hs (.str _)⟩
    · exact q.elim
  · exact q.elim
end
end Dn

namespace Dn
open PySem PySem.Spec L2
section
variable {X : DX} {W : WX}

end
section
variable {K : PySem.W.Frag} {w : World} {H : Hp} {ρ av av2 : List Addr}
mutual
/-- addresses that are not there as yet may be avoided -/
theorem RepV.widen (s : ∀ a ∈ av2, a ∈ av ∨ H a = none) : ∀ {v : V} {t : T}, RepV K w H ρ av v t → RepV K w H ρ av2 v t
  | _, _, .non => .non
  | _, _, .bl b => .bl b
  | _, _, .int b => .int b
  | _, _, .str b => .str b
  | _, _, .tup h r => .tup h (RepVs.widen s r)
  | _, _, .tupK h r => .tupK h (RepVs.widen s r)
  | _, _, .lst h h1 h2 r => .lst h h1 (fun z => (s _ z).elim h2 fun q => by rw [q] at h; cases h) (RepVs.widen s r)
  | _, _, .flst h r => .flst h (RepVs.widen s r)
  | _, _, .ref h => .ref h
  | _, _, .dic h h1 h2 r => .dic h h1 (fun z => (s _ z).elim h2 fun q => Rd.there h q) (RepKs.widen s r)
  | _, _, .dicK h hx r => .dicK h hx (RepKs.widen s r)
theorem RepVs.widen (s : ∀ a ∈ av2, a ∈ av ∨ H a = none) : ∀ {v : List V} {t : List T}, RepVs K w H ρ av v t → RepVs K w H ρ av2 v t
  | _, _, .nil => .nil
  | _, _, .cons r rs => .cons (RepV.widen s r) (RepVs.widen s rs)
theorem RepKs.widen (s : ∀ a ∈ av2, a ∈ av ∨ H a = none) : ∀ {v : List (Key × V)} {t : List (Key × T)}, RepKs K w H ρ av v t → RepKs K w H ρ av2 v t
  | _, _, .nil => .nil
  | _, _, .cons r rs => .cons (RepV.widen s r) (RepKs.widen s rs)
end
end
section
variable {X : DX} {W : WX}

/-! ### what is walked -/
/-- src: the list's place in the store, if it stands there (it must not change meanwhile) -/
inductive RI where
  | ok (src : Option Nat) (ts : List T) (S : Sto) | exc (c : Str) (fs : Flds) (S : Sto) | bad
abbrev DI := Sl → Sto → RI
/-- the source is as it was -/
def Still (src : Option Nat) (ts : List T) (S : Sto) : Prop := match src with
  | none => True
  | some k => S[k]? = some (.lst ts)
def ItRep (K : PySem.W.Frag) (w : World) (J : It) (src : Option Nat) (ts : List T) (H : Hp) (ρ av : List Addr) : Prop :=
  ∀ av2, (∀ a ∈ av2, a ∈ av ∨ H a = none) → ∀ H2 ρ2 S2, Ext H ρ H2 ρ2 → RepS K w H2 ρ2 av2 S2 → Still src ts S2 → ∀ i : Nat,
    (∀ t, ts[i]? = some t → J.go i H2 ∧ ∀ x H3, J.yld i H2 x H3 → Ext H2 ρ2 H3 ρ2 ∧ RepS K w H3 ρ2 av2 S2 ∧ RepV K w H3 ρ2 av2 x t) ∧ (i = ts.length → J.stop i H2)
def GoodI (X : DX) (W : WX) (σ : L2.St) (H : Hp) (ρ av : List Addr) (R : It → Hp → Prop) : RI → Prop
  | .ok src ts S' => ∀ J H' ρ', Ext H ρ H' ρ' → RepS X.K X.w H' ρ' av S' → Still src ts S' → ItRep X.K X.w J src ts H' ρ' av → R J H'
  | .exc c fs S' => ∀ cls dd H' ρ', Ext H ρ H' ρ' → RepS X.K X.w H' ρ' av S' → RepX X.K X.w H' ρ' av X.mg cls dd c fs → W cls dd σ H'
  | .bad => False
def liftI (X : DX) (W : WX) (d : DI) : TI := fun σ H R => ∃ ρ av sl S, RepS X.K X.w H ρ av S ∧ RepE X.K X.w X.pin H ρ av σ sl ∧ GoodI X W σ H ρ av R (d sl S)
abbrev LI (X : DX) (W : WX) (tg iter : Expr) (d : DI) : Prop := PI X tg iter (liftI X W d)
theorem _root_.L2.PI.imp {X : Cx} {tg e : Expr} {t t' : TI} (h : PI X tg e t) (f : ∀ σ H R, t' σ H R → t σ H R) : PI X tg e t' := ⟨fun pins s σ H R I q => h.run pins s σ H R I (f σ H R q)⟩
theorem _root_.L2.PI.or {X : Cx} {tg e : Expr} {t u : TI} (h : PI X tg e t) (k : PI X tg e u) : PI X tg e (fun σ H R => t σ H R ∨ u σ H R) := ⟨fun pins s σ H R I q => q.elim (h.run pins s σ H R I) (k.run pins s σ H R I)⟩
/-- the signs of a text -/
def signs (x : Str) : List T := x.cps.toList.map fun c => .str ⟨#[c]⟩
def itOf (S : Sto) : T → Option (Option Nat × List T)
  | .tup ts => some (none, ts)
  | .ktup ts => some (none, ts)
  | .lst ts => some (none, ts)
  | .flst ts => some (none, ts)
  | .str x => some (none, signs x)
  | .ref k => match S[k]? with
    | some (.lst ts) => some (some k, ts)
    | _ => none
  | _ => none
def dIt (d : DE) : DI := fun sl S => match d sl S with
  | .ok t S1 => (match itOf S1 (fz t) with
    | some (src, ts) => .ok src ts S1
    | none => .bad)
  | .exc c fs S1 => .exc c fs S1
  | .bad => .bad
theorem itl_rep {K : PySem.W.Frag} {w : World} {H : Hp} {ρ av : List Addr} {a : Addr} {src : Option Nat} {ts : List T} (h : ∀ av2, (∀ a ∈ av2, a ∈ av ∨ H a = none) → ∀ H2 ρ2 S2, Ext H ρ H2 ρ2 → RepS K w H2 ρ2 av2 S2 → Still src ts S2 → ∃ vs, SqL K H2 a vs ∧ RepVs K w H2 ρ2 av2 vs ts) : ItRep K w (Itl K a) src ts H ρ av := by
  intro av2 ha2 H2 ρ2 S2 e s st i
  obtain ⟨vs, hq, rs⟩ := h av2 ha2 H2 ρ2 S2 e s st
  refine ⟨fun t ht => ?_, fun hi => ⟨vs, hq, by rw [rs.length, hi]; exact Nat.le_refl _⟩⟩
  obtain ⟨v, hv, rv⟩ := rs.get ht
  refine ⟨⟨vs, v, hq, hv⟩, fun x H3 y => ?_⟩
  obtain ⟨e1, y⟩ := y
  subst e1
  have := y vs hq
  rw [hv] at this; cases this
  exact ⟨Ext.refl _ _, s, rv⟩
theorem itt_rep {K : PySem.W.Frag} {w : World} {H : Hp} {ρ av : List Addr} {a : Addr} {ts : List T} (h : ∀ av2, (∀ a ∈ av2, a ∈ av ∨ H a = none) → ∀ H2 ρ2, Ext H ρ H2 ρ2 → ∃ vs, SqT K H2 a vs ∧ RepVs K w H2 ρ2 av2 vs ts) : ItRep K w (Itt K a) none ts H ρ av := by
  intro av2 ha2 H2 ρ2 S2 e s st i
  obtain ⟨vs, hq, rs⟩ := h av2 ha2 H2 ρ2 e
  refine ⟨fun t ht => ?_, fun hi => ⟨vs, hq, by rw [rs.length, hi]; exact Nat.le_refl _⟩⟩
  obtain ⟨v, hv, rv⟩ := rs.get ht
  refine ⟨⟨vs, v, hq, hv⟩, fun x H3 y => ?_⟩
  obtain ⟨e1, y⟩ := y
  subst e1
  have := y vs hq
  rw [hv] at this; cases this
  exact ⟨Ext.refl _ _, s, rv⟩
theorem its_rep {K : PySem.W.Frag} {w : World} {H : Hp} {ρ av : List Addr} {x : Str} : ItRep K w (Its x) none (signs x) H ρ av := by
  intro av2 ha2 H2 ρ2 S2 e s st i
  have hl : (signs x).length = x.cps.size := by simp [signs]
  refine ⟨fun t ht => ?_, fun hi => by show x.cps.size ≤ i; omega⟩
  have hi : i < x.cps.size := by rw [← hl]; exact (List.getElem?_eq_some_iff.mp ht).1
  refine ⟨hi, fun y H3 yl => ?_⟩
  obtain ⟨e1, c, hc, ey⟩ := yl
  subst e1 ey
  have : t = .str ⟨#[c]⟩ := by
    unfold signs at ht
    rw [List.getElem?_map, Array.getElem?_toList, hc] at ht
    exact (Option.some.inj ht).symm
  subst this
  exact ⟨Ext.refl _ _, s, .str _⟩
theorem li_seq {tg e : Expr} {d : DE} (h : LE X W e d) : LI X W tg e (dIt d) :=
  (PI.or (pi_list h) (PI.or (pi_tup h) (pi_str h))).imp fun σ H R ⟨ρ, av, sl, S, hs, he, g⟩ => by
    unfold dIt at g
    cases hd : d sl S with
    | exc c fs S1 => rw [hd] at g; exact .inl ⟨ρ, av, sl, S, hs, he, by rw [hd]; exact g⟩
    | bad => rw [hd] at g; exact g.elim
    | ok t S1 =>
      rw [hd] at g
      simp only at g
      cases hi : itOf S1 (fz t) with
      | none => rw [hi] at g; exact g.elim
      | some p =>
        obtain ⟨src, ts⟩ := p
        rw [hi] at g
        cases ht : fz t with
        | tup us =>
          rw [ht] at hi; cases hi
          refine .inr (.inl ⟨ρ, av, sl, S, hs, he, ?_⟩)
          rw [hd]
          intro v H1 ρ1 e1 s1 r1
          have rv := r1.toV
          rw [ht] at rv
          obtain ⟨a, vs, rfl, hq, rs⟩ := tup_rep rv
          refine ⟨a, rfl, ⟨vs, hq⟩, g _ H1 ρ1 e1 s1.ofN trivial (itt_rep fun av2 ha2 H2 ρ2 e2 => ⟨vs, ?_, (rs.widen ha2).ext e2⟩)⟩
          rcases hq with hq | hq
          · exact .inl (e2.rd_tup hq)
          · exact .inr hq
        | ktup us =>
          rw [ht] at hi; cases hi
          refine .inr (.inl ⟨ρ, av, sl, S, hs, he, ?_⟩)
          rw [hd]
          intro v H1 ρ1 e1 s1 r1
          have rv := r1.toV
          rw [ht] at rv
          obtain ⟨a, vs, rfl, hq, rs⟩ := tupOf_rep rv rfl
          refine ⟨a, rfl, ⟨vs, hq⟩, g _ H1 ρ1 e1 s1.ofN trivial (itt_rep fun av2 ha2 H2 ρ2 e2 => ⟨vs, ?_, (rs.widen ha2).ext e2⟩)⟩
          rcases hq with hq | hq
          · exact .inl (e2.rd_tup hq)
          · exact .inr hq
        | lst us =>
          rw [ht] at hi; cases hi
          refine .inl ⟨ρ, av, sl, S, hs, he, ?_⟩
          rw [hd]
          intro v H1 ρ1 e1 s1 r1
          have rv := r1.toV
          rw [ht] at rv
          cases rv with
          | @lst a vs _ h0 h1 h2 rs =>
            refine ⟨a, rfl, ⟨vs, .inl (.inl h0)⟩, g _ H1 ρ1 e1 s1.ofN trivial (itl_rep fun av2 ha2 H2 ρ2 S2 e2 _ _ => ⟨vs, .inl (.inl (e2.keep _ _ h1 h0)), (rs.widen ha2).ext e2⟩)⟩
        | flst us =>
          rw [ht] at hi; cases hi
          refine .inl ⟨ρ, av, sl, S, hs, he, ?_⟩
          rw [hd]
          intro v H1 ρ1 e1 s1 r1
          have rv := r1.toV
          rw [ht] at rv
          cases rv with
          | @flst a vs _ h0 rs =>
            refine ⟨a, rfl, ⟨vs, h0.elim (fun ⟨o, q⟩ => .inl (.inr ⟨o, q⟩)) .inr⟩, g _ H1 ρ1 e1 s1.ofN trivial (itl_rep fun av2 ha2 H2 ρ2 S2 e2 _ _ => ⟨vs, h0.elim (fun ⟨o, q⟩ => .inl (.inr ⟨o, e2.imm _ _ trivial q⟩)) .inr, (rs.widen ha2).ext e2⟩)⟩
        | str x =>
          rw [ht] at hi; cases hi
          refine .inr (.inr ⟨ρ, av, sl, S, hs, he, ?_⟩)
          rw [hd]
          intro v H1 ρ1 e1 s1 r1
          have rv := r1.toV
          rw [ht] at rv
          cases rv
          exact ⟨x, rfl, g _ H1 ρ1 e1 s1.ofN trivial its_rep⟩
        | ref k =>
          rw [ht] at hi
          simp only [itOf] at hi
          split at hi
          · rename_i us hk
            cases hi
            refine .inl ⟨ρ, av, sl, S, hs, he, ?_⟩
            rw [hd]
            intro v H1 ρ1 e1 s1 r1
            have rv := r1.toV
            have s1' := s1.ofN
            rw [ht] at rv
            cases rv with
            | @ref a _ ha =>
              obtain ⟨o, ho, ro⟩ := s1'.of_ref ha
              rw [hk] at ho; cases ho
              obtain ⟨vs, h0, rs⟩ := ro
              refine ⟨a, rfl, ⟨vs, .inl (.inl h0)⟩, g _ H1 ρ1 e1 s1' hk (itl_rep fun av2 ha2 H2 ρ2 S2 e2 s2 st => ?_)⟩
              have ha2 : ρ2[k]? = some a := by
                obtain ⟨n, q⟩ := e2.pre
                rw [q, List.getElem?_append_left (List.getElem?_eq_some_iff.mp ha).1]; exact ha
              obtain ⟨o, ho, ro⟩ := s2.of_ref ha2
              have st' : S2[k]? = some (.lst ts) := st
              rw [st'] at ho; cases ho
              obtain ⟨vs2, g0, rs2⟩ := ro
              exact ⟨vs2, .inl (.inl g0), rs2⟩
          · cases hi
        | _ => rw [ht] at hi; cases hi
/-- lo, lo + 1, .. -/
def upto (lo : Int) (n : Nat) : List T := (List.range n).map fun k => .int (lo + (k : Nat))
theorem itr_rep {K : PySem.W.Frag} {w : World} {H : Hp} {ρ av : List Addr} {lo : Int} {n : Nat} : ItRep K w (Itr lo n) none (upto lo n) H ρ av := by
  intro av2 ha2 H2 ρ2 S2 e s st i
  have hl : (upto lo n).length = n := by simp [upto]
  refine ⟨fun t ht => ?_, fun hi => by show n ≤ i; omega⟩
  have hi : i < n := by rw [← hl]; exact (List.getElem?_eq_some_iff.mp ht).1
  refine ⟨hi, fun y H3 yl => ?_⟩
  obtain ⟨e1, ey⟩ := yl
  subst e1 ey
  have : t = .int (lo + i) := by
    unfold upto at ht
    rw [List.getElem?_map, List.getElem?_range hi] at ht
    exact (Option.some.inj ht).symm
  subst this
  exact ⟨Ext.refl _ _, s, .int _⟩
def dRng1 (d : DA) : DI := fun sl S => match d sl S with
  | .ok ts S1 => (match ts with
    | [.int j] => if -(2 ^ 62) ≤ j ∧ j < 2 ^ 62 then .ok none (upto 0 j.toNat) S1 else .bad
    | _ => .bad)
  | .exc c fs S1 => .exc c fs S1
  | .bad => .bad
def dRng2 (d : DA) : DI := fun sl S => match d sl S with
  | .ok ts S1 => (match ts with
    | [.int i, .int j] => if -(2 ^ 62) ≤ i ∧ i < 2 ^ 62 ∧ -(2 ^ 62) ≤ j ∧ j < 2 ^ 62 then .ok none (upto i (j - i).toNat) S1 else .bad
    | _ => .bad)
  | .exc c fs S1 => .exc c fs S1
  | .bad => .bad
theorem li_rng1 {tg a : Expr} {p pos : Pos} {d : DA} (hg : Gl X "range") (hm : X.mg "range" = none) (ha : LA X W [a] d) (hs : starEach [a] X.env = [(false, eval a X.env)] := by rfl) : LI X W tg (.Call (.Name "range" p) [a] [] pos) (dRng1 d) :=
  (pi_range1 hg hm ha hs).imp fun σ H R ⟨ρ, av, sl, S, hs', he, g⟩ => ⟨ρ, av, sl, S, hs', he, by
    unfold dRng1 at g
    cases hd : d sl S with
    | exc c fs S1 => rw [hd] at g; exact g
    | bad => rw [hd] at g; exact g
    | ok ts S1 =>
      rw [hd] at g
      simp only at g
      intro vs H1 ρ1 e1 s1 r1
      split at g
      · rename_i j
        cases r1 with
        | cons ra rr =>
          cases rr
          cases ra.int_inv
          split at g
          · rename_i c
            exact ⟨j, rfl, c.1, c.2, g _ H1 ρ1 e1 s1 trivial itr_rep⟩
          · exact g.elim
      · exact g.elim⟩
theorem li_rng2 {tg a b : Expr} {p pos : Pos} {d : DA} (hg : Gl X "range") (hm : X.mg "range" = none) (ha : LA X W [a, b] d) (hs : starEach [a, b] X.env = [(false, eval a X.env), (false, eval b X.env)] := by rfl) (hs2 : starEach [b] X.env = [(false, eval b X.env)] := by rfl) : LI X W tg (.Call (.Name "range" p) [a, b] [] pos) (dRng2 d) :=
  (pi_range2 hg hm ha hs hs2).imp fun σ H R ⟨ρ, av, sl, S, hs', he, g⟩ => ⟨ρ, av, sl, S, hs', he, by
    unfold dRng2 at g
    cases hd : d sl S with
    | exc c fs S1 => rw [hd] at g; exact g
    | bad => rw [hd] at g; exact g
    | ok ts S1 =>
      rw [hd] at g
      simp only at g
      intro vs H1 ρ1 e1 s1 r1
      split at g
      · rename_i i j
        cases r1 with
        | cons ra rr =>
          cases rr with
          | cons rb rr =>
            cases rr
            cases ra.int_inv
            cases rb.int_inv
            split at g
            · rename_i c
              exact ⟨i, j, rfl, c, g _ H1 ρ1 e1 s1 trivial itr_rep⟩
            · exact g.elim
      · exact g.elim⟩
/-- lo, lo + c, .. -/
def stepT (lo c : Int) (n : Nat) : List T := (List.range n).map fun k => .int (lo + (k : Nat) * c)
theorem itc_rep {K : PySem.W.Frag} {w : World} {H : Hp} {ρ av : List Addr} {lo c : Int} {n : Nat} : ItRep K w (Itc lo c n) none (stepT lo c n) H ρ av := by
  intro av2 ha2 H2 ρ2 S2 e s st i
  have hl : (stepT lo c n).length = n := by simp [stepT]
  refine ⟨fun t ht => ?_, fun hi => by show n ≤ i; omega⟩
  have hi : i < n := by rw [← hl]; exact (List.getElem?_eq_some_iff.mp ht).1
  refine ⟨hi, fun y H3 yl => ?_⟩
  obtain ⟨e1, ey⟩ := yl
  subst e1 ey
  have : t = .int (lo + i * c) := by
    unfold stepT at ht
    rw [List.getElem?_map, List.getElem?_range hi] at ht
    exact (Option.some.inj ht).symm
  subst this
  exact ⟨Ext.refl _ _, s, .int _⟩

/-! ### for -/
open Classical in
noncomputable def forL (src : Option Nat) (all : List T) (g : DG) (body : DS) : List T → Sl → Sto → RS
  | [], sl, S => if Still src all S then .nx sl S else .bad
  | t :: ts, sl, S => if Still src all S then (match g t sl S with
    | some (sl1, S1) => (match body sl1 S1 with
      | .nx sl2 S2 => forL src all g body ts sl2 S2
      | .ct sl2 S2 => forL src all g body ts sl2 S2
      | .bk sl2 S2 => .nx sl2 S2
      | r => r)
    | none => .bad) else .bad
noncomputable def dFor (i : DI) (g : DG) (body : DS) : DS := fun sl S => match i sl S with
  | .ok src ts S1 => forL src ts g body ts sl S1
  | .exc c fs S1 => .exc c fs sl S1
  | .bad => .bad
theorem ls_for {tg iter : Expr} {body : List Stmt} {pos : Pos} {di : DI} {g : DG} {db : DS} (hp : PassesOwn (model X.prog X.w) X.A X.env X.xe) (hc : X.calm = true) (hi : LI X W tg iter di) (hg : LG X tg g) (hb : LSs X W body db)
    (hs : ∀ x, foldedSetIterable iter X.env x = pure x := by intro _; rfl) : LS X W (.For tg iter body [] pos) (dFor di g db) :=
  (ps_for hp hc hi hg hb hs).imp fun D σ H ⟨ρ, av, sl, S, hs', he, q⟩ => ⟨ρ, av, sl, S, hs', he, by
    unfold dFor at q
    cases hd : di sl S with
    | exc c fs S1 => rw [hd] at q; exact fun cls dd H1 ρ1 e1 s1 rx => q cls dd σ H1 ρ1 e1 s1 (he.ext e1) rfl rx
    | bad => rw [hd] at q; exact q.elim
    | ok src ts S1 =>
      rw [hd] at q
      intro J H1 ρ1 e1 s1 st1 it
      refine ⟨fun i m σ2 H2 => ∃ ρ2 sl2 S2, Ext H1 ρ1 H2 ρ2 ∧ RepS X.K X.w H2 ρ2 av S2 ∧ RepE X.K X.w X.pin H2 ρ2 av σ2 sl2 ∧ σ2.length = σ.length ∧ m = ts.length - i ∧ i ≤ ts.length ∧ GoodS X W H2 ρ2 av σ.length D (forL src ts g db (ts.drop i) sl2 S2),
        ⟨ts.length, ρ1, sl, S1, Ext.refl _ _, s1, he.ext e1, rfl, by simp, Nat.zero_le _, by rw [List.drop_zero]; exact q.ext e1⟩, ?_⟩
      rintro i m σ2 H2 ⟨ρ2, sl2, S2, e2, s2, r2, hl, rfl, hle, q2⟩
      by_cases hlt : i < ts.length
      · have hdrop : ts.drop i = ts[i] :: ts.drop (i + 1) := List.drop_eq_getElem_cons hlt
        rw [hdrop] at q2
        unfold forL at q2
        split at q2
        · rename_i st2
          obtain ⟨go, yl⟩ := (it av (fun _ h => .inl h) H2 ρ2 S2 e2 s2 st2 i).1 ts[i] (List.getElem?_eq_getElem hlt)
          refine .inr ⟨go, fun σ3 H3 => ∃ ρ3 sl3 S3, Ext H1 ρ1 H3 ρ3 ∧ RepS X.K X.w H3 ρ3 av S3 ∧ RepE X.K X.w X.pin H3 ρ3 av σ3 sl3 ∧ σ3.length = σ.length ∧ GoodS X W H3 ρ3 av σ.length D (forL src ts g db (ts.drop (i + 1)) sl3 S3),
            fun σ3 H3 ⟨ρ3, sl3, S3, e3, s3, r3, hl3, q3⟩ => ⟨ts.length - (i + 1), by omega, ρ3, sl3, S3, e3, s3, r3, hl3, rfl, hlt, q3⟩, fun x H3 y => ?_⟩
          obtain ⟨x3, s3, rv⟩ := yl x H3 y
          refine ⟨ρ2, av, sl2, S2, ts[i], s3, r2.ext x3, rv, ?_⟩
          have e3 := e2.trans x3
          replace q2 := q2.ext x3
          rw [hl]
          cases hg' : g ts[i] sl2 S2 with
          | none => rw [hg'] at q2; exact q2.elim
          | some p =>
            rw [hg'] at q2
            simp only at q2
            intro σ4 H4 ρ4 x4 s4 r4 hl4
            refine ⟨ρ4, av, p.1, p.2, s4, r4, ?_⟩
            replace q2 := q2.ext x4
            have e4 := e3.trans x4
            rw [hl4]
            cases hb' : db p.1 p.2 with
            | nx sl5 S5 => rw [hb'] at q2; exact fun σ5 H5 ρ5 x5 s5 r5 hl5 => ⟨ρ5, sl5, S5, e4.trans x5, s5, r5, hl5, q2.ext x5⟩
            | ct sl5 S5 => rw [hb'] at q2; exact fun σ5 H5 ρ5 x5 s5 r5 hl5 => ⟨ρ5, sl5, S5, e4.trans x5, s5, r5, hl5, q2.ext x5⟩
            | bk sl5 S5 => rw [hb'] at q2; exact q2
            | rt t5 S5 => rw [hb'] at q2; exact q2
            | exc c fs sl5 S5 => rw [hb'] at q2; exact q2
            | bad => rw [hb'] at q2; exact q2
        · exact q2.elim
      · have e : i = ts.length := by omega
        rw [List.drop_eq_nil_of_le (by omega)] at q2
        unfold forL at q2
        split at q2
        · rename_i st2
          exact .inl ⟨(it av (fun _ h => .inl h) H2 ρ2 S2 e2 s2 st2 i).2 e, q2 σ2 H2 ρ2 (Ext.refl _ _) s2 r2 hl⟩
        · exact q2.elim⟩

/-! ### while: FUEL turns at most -/
def FUEL : Nat := 2 ^ 64
def whileN (c : DB) (b : DS) : Nat → Sl → Sto → RS
  | 0, _, _ => .bad
  | n + 1, sl, S => (c sl S).toS sl fun k S1 => if k then (match b sl S1 with
      | .nx sl2 S2 => whileN c b n sl2 S2
      | .ct sl2 S2 => whileN c b n sl2 S2
      | .bk sl2 S2 => .nx sl2 S2
      | r => r) else .nx sl S1
def dWhile (c : DB) (b : DS) : DS := fun sl S => whileN c b FUEL sl S
theorem ls_while {c : Expr} {body : List Stmt} {pos : Pos} {dc : DB} {db : DS} (hp : PassesOwn (model X.prog X.w) X.A X.env X.xe) (hc : LT X W c dc) (hb : LSs X W body db) : LS X W (.While c body [] pos) (dWhile dc db) :=
  (ps_while hp hc hb).imp fun D σ H ⟨ρ, av, sl, S, hs', he, q⟩ => by
    refine ⟨fun m σ2 H2 => ∃ ρ2 sl2 S2, Ext H ρ H2 ρ2 ∧ RepS X.K X.w H2 ρ2 av S2 ∧ RepE X.K X.w X.pin H2 ρ2 av σ2 sl2 ∧ σ2.length = σ.length ∧ GoodS X W H2 ρ2 av σ.length D (whileN dc db m sl2 S2), ⟨FUEL, ρ, sl, S, Ext.refl _ _, hs', he, rfl, q⟩, ?_⟩
    rintro m σ2 H2 ⟨ρ2, sl2, S2, e2, s2, r2, hl, q2⟩
    cases m with
    | zero => exact q2.elim
    | succ m =>
      unfold whileN at q2
      rw [← hl] at q2
      refine ⟨ρ2, av, sl2, S2, s2, r2, GoodS.test q2 r2 fun k S3 H3 ρ3 e3 s3 q3 => ?_⟩
      rw [hl] at q3
      cases k with
      | false =>
        rw [if_neg Bool.false_ne_true] at q3 ⊢
        exact q3 σ2 H3 ρ3 (Ext.refl _ _) s3 (r2.ext e3) hl
      | true =>
        rw [if_pos rfl] at q3 ⊢
        refine ⟨fun σ4 H4 => ∃ ρ4 sl4 S4, Ext H ρ H4 ρ4 ∧ RepS X.K X.w H4 ρ4 av S4 ∧ RepE X.K X.w X.pin H4 ρ4 av σ4 sl4 ∧ σ4.length = σ.length ∧ GoodS X W H4 ρ4 av σ.length D (whileN dc db m sl4 S4), fun σ4 H4 h4 => ⟨m, Nat.lt_succ_self _, h4⟩, ρ3, av, sl2, S3, s3, r2.ext e3, ?_⟩
        rw [hl]
        have e3' := e2.trans e3
        cases hb' : db sl2 S3 with
        | nx sl5 S5 => rw [hb'] at q3; exact fun σ5 H5 ρ5 x5 s5 r5 hl5 => ⟨ρ5, sl5, S5, e3'.trans x5, s5, r5, hl5, q3.ext x5⟩
        | ct sl5 S5 => rw [hb'] at q3; exact fun σ5 H5 ρ5 x5 s5 r5 hl5 => ⟨ρ5, sl5, S5, e3'.trans x5, s5, r5, hl5, q3.ext x5⟩
        | bk sl5 S5 => rw [hb'] at q3; exact q3
        | rt t5 S5 => rw [hb'] at q3; exact q3
        | exc c fs sl5 S5 => rw [hb'] at q3; exact q3
        | bad => rw [hb'] at q3; exact q3
end
end Dn

namespace Dn
open PySem PySem.Spec L2
abbrev W0 : WX := fun _ _ _ _ => False
section
variable {X : DX} {W : WX}

/-! ### targets of a comprehension: names alone; what they leave as it was -/
def GoodC (X : DX) (js : List Nat) (σ : L2.St) (H : Hp) (ρ av : List Addr) (Q : L2.St → Hp → Prop) : Option (Sl × Sto) → Prop
  | some (sl', S') => ∀ σ' H' ρ', Ext H ρ H' ρ' → RepS X.K X.w H' ρ' av S' → RepE X.K X.w X.pin H' ρ' av σ' sl' → σ'.length = σ.length → (∀ k : Nat, k ∉ js → σ'[k]? = σ[k]?) → Q σ' H'
  | none => False
def liftC (X : DX) (js : List Nat) (d : DG) : TG := fun v σ H Q => ∃ ρ av sl S t, RepS X.K X.w H ρ av S ∧ RepE X.K X.w X.pin H ρ av σ sl ∧ RepV X.K X.w H ρ av v t ∧ GoodC X js σ H ρ av Q (d t sl S)
def liftCs (X : DX) (js : List Nat) (d : DGs) : TGs := fun vs σ H Q => ∃ ρ av sl S ts, RepS X.K X.w H ρ av S ∧ RepE X.K X.w X.pin H ρ av σ sl ∧ RepVs X.K X.w H ρ av vs ts ∧ GoodC X js σ H ρ av Q (d ts sl S)
abbrev LC (X : DX) (js : List Nat) (e : Expr) (d : DG) : Prop := PG X e (liftC X js d)
abbrev LCs (X : DX) (js : List Nat) (es : List Expr) (d : DGs) : Prop := PGs X es (liftCs X js d)
theorem lc_name {e : Expr} {i : Nat} {js : List Nat} (h : PG X e (gName i)) (hj : i ∈ js := by simp) : LC X js e (gN i) := h.imp fun v σ H Q ⟨ρ, av, sl, S, t, hs, he, r, g⟩ =>
  g _ H ρ (Ext.refl _ _) hs (he.set r i) (by rw [List.length_set]) fun k hk => by rw [List.getElem?_set_ne (fun z : i = k => hk (by rw [← z]; exact hj))]
theorem lcs_nil {js : List Nat} : LCs X js [] gsNil := pgs_nil.imp fun vs σ H Q ⟨ρ, av, sl, S, ts, hs, he, r, g⟩ => by
  cases r with
  | nil => exact ⟨rfl, g σ H ρ (Ext.refl _ _) hs he rfl fun _ _ => rfl⟩
  | cons _ _ => exact g.elim
theorem lcs_cons {js : List Nat} {e : Expr} {es : List Expr} {g : DG} {r : DGs} (h1 : LC X js e g) (h2 : LCs X js es r) (hs : (assignEach (e :: es) X.env).map (·.2) = assign e X.env :: (assignEach es X.env).map (·.2) := by rfl) : LCs X js (e :: es) (gsCons g r) :=
  (pgs_cons h1 h2 hs).imp fun vs σ H Q ⟨ρ, av, sl, S, ts, hs, he, rv, q⟩ => by
    cases rv with
    | nil => exact q.elim
    | @cons v t vs ts rv rvs =>
      refine ⟨v, vs, rfl, ρ, av, sl, S, t, hs, he, rv, ?_⟩
      unfold gsCons at q
      simp only at q
      cases e1 : g t sl S with
      | none => rw [e1] at q; exact q.elim
      | some p =>
        rw [e1] at q
        intro σ' H' ρ' e' s' r' hl ag
        refine ⟨ρ', av, p.1, p.2, ts, s', r', rvs.ext e', ?_⟩
        simp only at q
        cases e2 : r ts p.1 p.2 with
        | none => rw [e2] at q; exact q.elim
        | some p2 =>
          rw [e2] at q
          exact fun σ2 H2 ρ2 x2 s2 r2 hl2 ag2 => q σ2 H2 ρ2 (e'.trans x2) s2 r2 (hl2.trans hl) fun k hk => (ag2 k hk).trans (ag k hk)
theorem lc_tup {js : List Nat} {es : List Expr} {k : Nat} {pos : Pos} {g : DGs} {n : Nat} (hc : X.calm = true) (h : LCs X js es g) (hn : (assignEach es X.env).length = n := by rfl) (hst : (assignEach es X.env).findIdx? (·.1) = none := by rfl) : LC X js (.Tuple es k pos) (gT n g) :=
  (pg_tup hc h hn hst).imp fun v σ H Q ⟨ρ, av, sl, S, t, hs, he, r, q⟩ => by
    unfold gT at q
    split at q
    · rename_i ts hts
      split at q
      · rename_i hl
        obtain ⟨a, vs, rfl, ha, rs⟩ := tupOf_rep r hts
        exact ⟨a, vs, rfl, ha, by rw [rs.length]; exact hl, ρ, av, sl, S, ts, hs, he, rs, q⟩
      · exact q.elim
    · exact q.elim

/-! ### a comprehension -/
def wipeT (sl : Sl) : List Nat → Sl
  | [] => sl
  | v :: vs => (wipeT sl vs).set v none
theorem wipe_rep {K : PySem.W.Frag} {w : World} {pn : Option Pin} {H : Hp} {ρ av : List Addr} {σ : L2.St} {sl : Sl} (he : RepE K w pn H ρ av σ sl) : ∀ vs : List Nat, (∀ p, pn = some p → p.i ∉ vs) → RepE K w pn H ρ av (wipe σ vs) (wipeT sl vs)
  | [], _ => he
  | v :: vs, hv => by
    have ih := wipe_rep he vs fun p hp z => hv p hp (List.mem_cons_of_mem _ z)
    unfold wipe wipeT
    refine ⟨by rw [List.length_set, List.length_set]; exact ih.len, fun i t h => ?_, fun p hp => ?_⟩
    rotate_left
    · obtain ⟨h1, h2, h3, h4, h5⟩ := ih.pin p hp
      have hj : v ≠ p.i := fun z => hv p hp (by rw [z]; exact List.mem_cons_self)
      refine ⟨h1, h2, h3, h4, fun z => ?_⟩
      rw [List.getElem?_set_ne hj] at z ⊢; exact h5 z
    by_cases hi : v = i
    · subst hi
      have hl := (List.getElem?_eq_some_iff.mp h).1
      rw [List.length_set] at hl
      rw [List.getElem?_set_self hl] at h
      cases h
    · rw [List.getElem?_set_ne hi] at h
      obtain ⟨x, h1, h2⟩ := ih.at_ i t h
      exact ⟨x, by rw [List.getElem?_set_ne hi]; exact h1, h2⟩
theorem wipe_get {σ : L2.St} {k : Nat} : ∀ {vs : List Nat}, k ∈ vs → k < σ.length → (wipe σ vs)[k]? = some none
  | [], h, _ => nomatch h
  | v :: vs, h, hl => by
    unfold wipe
    by_cases e : v = k
    · subst e
      rw [List.getElem?_set_self (by rw [wipe_length]; exact hl)]
    · rw [List.getElem?_set_ne e]
      exact wipe_get ((List.mem_cons.mp h).resolve_left fun q => e q.symm) hl
theorem wipe_same {σ σ2 : L2.St} {vs : List Nat} (hl : σ2.length = (wipe σ vs).length) (ag : ∀ k : Nat, k ∉ vs → σ2[k]? = (wipe σ vs)[k]?) : wipe σ2 vs = wipe σ vs := by
  rw [wipe_length] at hl
  apply List.ext_getElem?
  intro k
  by_cases hk : k ∈ vs
  · by_cases hb : k < σ.length
    · rw [wipe_get hk (by omega), wipe_get hk hb]
    · rw [List.getElem?_eq_none (by rw [wipe_length]; omega), List.getElem?_eq_none (by rw [wipe_length]; omega)]
  · rw [wipe_out hk]
    exact ag k hk
/-- the tests -/
abbrev LTs (X : DX) (W : WX) (ifs : List Expr) (d : DB) : Prop := PTs X ifs (liftB X W d)
def dYes : DB := fun _ S => .ok true S
theorem lts_nil : LTs X W [] dYes := ⟨fun pins s σ H Q I ⟨ρ, av, sl, S, hs, he, g⟩ => pts_nil.run pins s σ H Q I (g H ρ (Ext.refl _ _) hs)⟩
theorem lts_one {c : Expr} {d : DB} (h : LT X W c d) : LTs X W [c] d := pts_one h
open Classical in
noncomputable def lcL (src : Option Nat) (all : List T) (g : DG) (dt : DB) (de : DE) (slw : Sl) : List T → List T → Sto → RE
  | [], acc, S => if Still src all S then .ok (.nlst acc) S else .bad
  | t :: ts, acc, S => if Still src all S then (match g t slw S with
    | some (sl1, S1) => (match dt sl1 S1 with
      | .ok true S2 => (match de sl1 S2 with
        | .ok y S3 => if acc.length < sizeLine then lcL src all g dt de slw ts (acc ++ [fz y]) S3 else .bad
        | _ => .bad)
      | .ok false S2 => lcL src all g dt de slw ts acc S2
      | _ => .bad)
    | none => .bad) else .bad
noncomputable def dLc (i : DI) (g : DG) (dt : DB) (de : DE) (vs : List Nat) : DE := fun sl S => match i sl S with
  | .ok src ts S1 => lcL src ts g dt de (wipeT sl vs) ts [] S1
  | .exc c fs S1 => .exc c fs S1
  | .bad => .bad
theorem Ext.through {H1 H4 : Hp} {ρ1 ρ4 : List Addr} {D : Addr} (e : Ext H1 ρ1 H4 ρ4) (hD : H1 D = none) (o : HO) : Ext H1 ρ1 (upd H4 D o) ρ4 := by
  have ne : ∀ a u, H1 a = some u → a ≠ D := fun a u h z => by rw [z, hD] at h; cases h
  exact ⟨e.pre, e.new, fun a u h q => by rw [upd_ne (ne a u q)]; exact e.keep a u h q, fun a u h q => by rw [upd_ne (ne a u q)]; exact e.imm a u h q, fun a h => by
    by_cases z : a = D
    · rw [z]; exact hD
    · rw [upd_ne z] at h; exact e.dom a h⟩
theorem Ext.avoid {H : Hp} {ρ av : List Addr} {S : Sto} {K : PySem.W.Frag} {w : World} {D : Addr} (s : RepS K w H ρ (D :: av) S) {o u : HO} (hD : H D = some u) (hi : ¬ Imm u) : True := trivial
section
variable {K : PySem.W.Frag} {w : World} {H : Hp} {ρ av : List Addr} {D : Addr}
mutual
/-- an avoided object may be written -/
theorem RepV.upd {u o : HO} (hD : H D = some u) (hi : ¬ Imm u) (hr : D ∉ ρ) : ∀ {v : V} {t : T}, RepV K w H ρ (D :: av) v t → RepV K w (L2.upd H D o) ρ (D :: av) v t
  | _, _, .non => .non
  | _, _, .bl b => .bl b
  | _, _, .int b => .int b
  | _, _, .str b => .str b
  | _, _, .tup h r => .tup (by rw [upd_ne (fun z => by rw [z, hD] at h; cases h; exact hi trivial)]; exact h) (RepVs.upd hD hi hr r)
  | _, _, .tupK h r => .tupK h (RepVs.upd hD hi hr r)
  | _, _, .lst h h1 h2 r => .lst (by rw [upd_ne (fun z => h2 (by rw [z]; exact List.mem_cons_self))]; exact h) h1 h2 (RepVs.upd hD hi hr r)
  | _, _, .flst h r => .flst (h.imp (fun ⟨ob, q⟩ => ⟨ob, by rw [upd_ne (fun z => by rw [z, hD] at q; cases q; exact hi trivial)]; exact q⟩) id) (RepVs.upd hD hi hr r)
  | _, _, .ref h => .ref h
  | _, _, .dic h h1 h2 r => .dic (by
      rcases h with h | ⟨ob, h⟩
      · exact .inl (by rw [upd_ne (fun z => h2 (by rw [z]; exact List.mem_cons_self))]; exact h)
      · exact .inr ⟨ob, by rw [upd_ne (fun z => h2 (by rw [z]; exact List.mem_cons_self))]; exact h⟩) h1 h2 (RepKs.upd hD hi hr r)
  | _, _, .dicK h hx r => .dicK h hx (RepKs.upd hD hi hr r)
theorem RepVs.upd {u o : HO} (hD : H D = some u) (hi : ¬ Imm u) (hr : D ∉ ρ) : ∀ {v : List V} {t : List T}, RepVs K w H ρ (D :: av) v t → RepVs K w (L2.upd H D o) ρ (D :: av) v t
  | _, _, .nil => .nil
  | _, _, .cons r rs => .cons (RepV.upd hD hi hr r) (RepVs.upd hD hi hr rs)
theorem RepKs.upd {u o : HO} (hD : H D = some u) (hi : ¬ Imm u) (hr : D ∉ ρ) : ∀ {v : List (Key × V)} {t : List (Key × T)}, RepKs K w H ρ (D :: av) v t → RepKs K w (L2.upd H D o) ρ (D :: av) v t
  | _, _, .nil => .nil
  | _, _, .cons r rs => .cons (RepV.upd hD hi hr r) (RepKs.upd hD hi hr rs)
end
theorem RepS.upd {S : Sto} {u o : HO} (s : RepS K w H ρ (D :: av) S) (hD : H D = some u) (hi : ¬ Imm u) : RepS K w (L2.upd H D o) ρ (D :: av) S := by
  have hr := (s.out D List.mem_cons_self).2
  have ne : ∀ (i : Nat) a, ρ[i]? = some a → a ≠ D := fun i a h z => hr (z ▸ List.mem_of_getElem? h)
  refine ⟨s.len, s.nd, fun i a ob h1 h2 => ?_, fun a ha => ⟨?_, (s.out a ha).2⟩⟩
  · have r := s.obj i a ob h1 h2
    cases ob with
    | lst ts => obtain ⟨vs, g1, g2⟩ := r; exact ⟨vs, by rw [upd_ne (ne i a h1)]; exact g1, g2.upd hD hi hr⟩
    | dK ts => obtain ⟨vs, g1, g2⟩ := r; exact ⟨vs, by rw [upd_ne (ne i a h1)]; exact g1, Paired.mono (fun _ _ h => ⟨h.1, h.2.upd hD hi hr⟩) g2⟩
    | dT ts => obtain ⟨vs, g1, g2⟩ := r; exact ⟨vs, by rw [upd_ne (ne i a h1)]; exact g1, Paired.mono (fun _ _ h => ⟨h.1, h.2.upd hD hi hr⟩) g2⟩
    | ins c fs => exact r
  · by_cases z : a = D
    · rw [z, upd_same]; simp
    · rw [upd_ne z]; exact (s.out a ha).1
theorem RepE.upd {pn : Option Pin} {σ : L2.St} {sl : Sl} {u o : HO} (he : RepE K w pn H ρ (D :: av) σ sl) (hD : H D = some u) (hi : ¬ Imm u) (hr : D ∉ ρ) : RepE K w pn (L2.upd H D o) ρ (D :: av) σ sl :=
  he.to (fun r => r.upd hD hi hr) fun d vs z1 z2 z3 => ⟨by rw [upd_ne (fun z => z3 (by rw [z]; exact List.mem_cons_self))]; exact z1, z2, z3⟩
end
/-- the loop of it -/
theorem low_lc {di : DI} {g : DG} {dt : DB} {de : DE} {vs : List Nat} (hv : ∀ p, X.pin = some p → p.i ∉ vs) : Low X W (dLc di g dt de vs) (tLc (liftI X W di) (liftC X vs g) (liftB X W0 dt) (liftE X W0 de) vs) := by
  rintro σ H Q ⟨ρ, av, sl, S, hs, he, q⟩
  refine ⟨ρ, av, sl, S, hs, he, ?_⟩
  unfold dLc at q
  cases hd : di sl S with
  | exc c fs S1 => rw [hd] at q; exact q
  | bad => rw [hd] at q; exact q.elim
  | ok src ts S1 =>
    rw [hd] at q
    simp only at q
    intro J H1 ρ1 e1 s1 st1 it D hD
    have q1 := GoodE.ext e1 q
    have hDr : D ∉ ρ1 := (notin_new s1 hD).1
    have hDa : D ∉ av := (notin_new s1 hD).2
    -- W: what is made so far stands at D
    refine ⟨fun i m H2 => ∃ ρ2 S2 acc accV, Ext H1 ρ1 H2 ρ2 ∧ RepS X.K X.w H2 ρ2 (D :: av) S2 ∧ RepE X.K X.w X.pin H2 ρ2 (D :: av) (wipe σ vs) (wipeT sl vs) ∧ H2 D = some (.lst accV) ∧ RepVs X.K X.w H2 ρ2 (D :: av) accV acc ∧ m = ts.length - i ∧ i ≤ ts.length ∧
        GoodE X W σ H1 ρ1 av Q (lcL src ts g dt de (wipeT sl vs) (ts.drop i) acc S2), ⟨ts.length, ρ1, S1, [], [], Ext.laid s1 hD _, s1.laidN hD _, wipe_rep (((he.ext e1).to (fun r => r.more hD) fun d vs z1 z2 z3 => ⟨z1, z2, fun z => (List.mem_cons.mp z).elim (fun z => by rw [z, hD] at z1; cases z1) z3⟩ : RepE X.K X.w X.pin H1 ρ1 (D :: av) σ sl).ext (Ext.laid s1 hD _)) vs hv, upd_same, .nil, by simp, Nat.zero_le _, by rw [List.drop_zero]; exact q1⟩, ?_⟩
    rintro i m H2 ⟨ρ2, S2, acc, accV, e2, s2, r2, hacc, racc, rfl, hle, q2⟩
    have hDr2 : D ∉ ρ2 := (s2.out D List.mem_cons_self).2
    have wid : ∀ a ∈ D :: av, a ∈ av ∨ H1 a = none := fun a h => (List.mem_cons.mp h).elim (fun z => .inr (by rw [z]; exact hD)) .inl
    by_cases hlt : i < ts.length
    · have hdrop : ts.drop i = ts[i] :: ts.drop (i + 1) := List.drop_eq_getElem_cons hlt
      rw [hdrop] at q2
      unfold lcL at q2
      split at q2
      · rename_i st2
        obtain ⟨go, yl⟩ := (it (D :: av) wid H2 ρ2 S2 e2 s2 st2 i).1 ts[i] (List.getElem?_eq_getElem hlt)
        refine .inr ⟨go, fun H3 => ∃ ρ3 S3 acc3 accV3, Ext H1 ρ1 H3 ρ3 ∧ RepS X.K X.w H3 ρ3 (D :: av) S3 ∧ RepE X.K X.w X.pin H3 ρ3 (D :: av) (wipe σ vs) (wipeT sl vs) ∧ H3 D = some (.lst accV3) ∧ RepVs X.K X.w H3 ρ3 (D :: av) accV3 acc3 ∧
            GoodE X W σ H1 ρ1 av Q (lcL src ts g dt de (wipeT sl vs) (ts.drop (i + 1)) acc3 S3), fun H3 ⟨ρ3, S3, acc3, accV3, x1, x2, x3, x4, x5, x6⟩ => ⟨ts.length - (i + 1), by omega, ρ3, S3, acc3, accV3, x1, x2, x3, x4, x5, rfl, hlt, x6⟩, fun x H3 y => ?_⟩
        obtain ⟨x3, s3, rv⟩ := yl x H3 y
        refine ⟨ρ2, D :: av, wipeT sl vs, S2, ts[i], s3, r2.ext x3, rv, ?_⟩
        have e3 := e2.trans x3
        have hacc3 : H3 D = some (.lst accV) := x3.keep D _ hDr2 hacc
        have racc3 := racc.ext x3
        have r3 := r2.ext x3
        cases hg' : g ts[i] (wipeT sl vs) S2 with
        | none => rw [hg'] at q2; exact q2.elim
        | some p =>
          rw [hg'] at q2
          simp only at q2
          intro σ4 H4 ρ4 x4 s4 r4 hl4 ag4
          refine ⟨wipe_same hl4 ag4, ρ4, D :: av, p.1, p.2, s4, r4, ?_⟩
          have e4 := e3.trans x4
          have hacc4 : H4 D = some (.lst accV) := x4.keep D _ hDr2 hacc3
          have racc4 := racc3.ext x4
          have r34 := r3.ext x4
          have hDr4 : D ∉ ρ4 := (s4.out D List.mem_cons_self).2
          cases ht : dt p.1 p.2 with
          | exc c fs S5 => rw [ht] at q2; exact q2.elim
          | bad => rw [ht] at q2; exact q2.elim
          | ok b S5 =>
            rw [ht] at q2
            intro H5 ρ5 x5 s5
            have e5 := e4.trans x5
            have hDr5 : D ∉ ρ5 := (s5.out D List.mem_cons_self).2
            have hacc5 : H5 D = some (.lst accV) := x5.keep D _ hDr4 hacc4
            cases b with
            | false =>
              rw [if_neg Bool.false_ne_true]
              exact ⟨ρ5, S5, acc, accV, e5, s5, r34.ext x5, hacc5, racc4.ext x5, q2⟩
            | true =>
              rw [if_pos rfl]
              refine ⟨ρ5, D :: av, p.1, S5, s5, r4.ext x5, ?_⟩
              simp only at q2
              cases hde : de p.1 S5 with
              | exc c fs S6 => rw [hde] at q2; exact q2.elim
              | bad => rw [hde] at q2; exact q2.elim
              | ok z S6 =>
                rw [hde] at q2
                simp only at q2
                split at q2
                · rename_i hlen
                  intro v H6 ρ6 x6 s6 r6
                  have s6 := s6.ofN
                  have hacc6 : H6 D = some (.lst accV) := x6.keep D _ hDr5 hacc5
                  have hDr6 : D ∉ ρ6 := (s6.out D List.mem_cons_self).2
                  have racc6 := (racc4.ext x5).ext x6
                  have ni : ¬ Imm (HO.lst accV) := fun z => z
                  refine ⟨accV, hacc6, by rw [racc6.length]; exact hlen, ρ6, S6, acc ++ [fz z], accV ++ [v], (e5.trans x6).through hD _, s6.upd hacc6 ni, ((r34.ext x5).ext x6).upd hacc6 ni hDr6, upd_same, ?_, q2⟩
                  exact (racc6.append (.cons r6.toV .nil)).upd hacc6 ni hDr6
                · exact q2.elim
      · exact q2.elim
    · have e : i = ts.length := by omega
      rw [List.drop_eq_nil_of_le (by omega)] at q2
      unfold lcL at q2
      split at q2
      · rename_i st2
        refine .inl ⟨(it (D :: av) wid H2 ρ2 S2 e2 s2 st2 i).2 e, q2 (.ref D) H2 ρ2 e2 s2 ⟨D, accV, rfl, hD, hacc, hDr2, hDa, racc⟩⟩
      · exact q2.elim
abbrev DX.blk (X : DX) (s : Shared) (H : Hp) (scope : Scope) (env : Env) (fp : List Addr) : DX := ⟨X.toCx.blk s H scope env fp, X.pin⟩
theorem le_lc {elt tg iter : Expr} {ifs : List Expr} {scope : Scope} {own : List (Str × Nat)} {pos : Pos} {di : DI} {g : DG} {dt : DB} {de : DE} (hc : X.calm = true) (hN : X.N.Nodup) (hi : LI X W tg iter di) (ok : BlkOk X.N X.env.scope scope own)
    (hg : ∀ (s : Shared) (H : Hp) (C : Addr) (cl : List (Str × Addr)) (fp : List Addr), LC (X.blk s H scope (compEnvC scope cl C X.env) fp) (own.map (·.2)) tg g) (ht : ∀ (s : Shared) (H : Hp) (C : Addr) (cl : List (Str × Addr)) (fp : List Addr), LTs (X.blk s H scope (compEnvC scope cl C X.env) fp) W0 ifs dt)
    (he : ∀ (s : Shared) (H : Hp) (C : Addr) (cl : List (Str × Addr)) (fp : List Addr), LE (X.blk s H scope (compEnvC scope cl C X.env) fp) W0 elt de) (hs : ∀ x, foldedSetIterable iter X.env x = pure x := by intro _; rfl) (hv : ∀ p, X.pin = some p → p.i ∉ own.map (·.2) := by intro _ z; cases z) :
    LE X W (.ListComp elt [⟨tg, iter, ifs, 0⟩] scope pos) (dLc di g dt de (own.map (·.2))) :=
  le_of (low_lc hv) (pe_lc hc hN hi ok hg ht he hs)
/-- x = [..] on one line, x a local: as ls_set, ls_setM -/
theorem ps_lc {i : Nat} {y : Str} {py : Pos} {elt tg iter : Expr} {ifs : List Expr} {scope : Scope} {own : List (Str × Nat)} {pos spos : Pos} {di : DI} {g : DG} {dt : DB} {de : DE} (hc : X.calm = true) (hN : X.N.Nodup) (hy : X.N[i]? = some y) (hyl : X.env.scope.names.lookup y = some .local)
    (hsw : swapsWith (.ListComp elt [⟨tg, iter, ifs, 0⟩] scope pos) (some (.Name y py)) spos.line X.env = pure true) (hi : LI X W tg iter di) (ok : BlkOk X.N X.env.scope scope own)
    (hg : ∀ (s : Shared) (H : Hp) (C : Addr) (cl : List (Str × Addr)) (fp : List Addr), LC (X.blk s H scope (compEnvC scope cl C X.env) fp) (own.map (·.2)) tg g) (ht : ∀ (s : Shared) (H : Hp) (C : Addr) (cl : List (Str × Addr)) (fp : List Addr), LTs (X.blk s H scope (compEnvC scope cl C X.env) fp) W0 ifs dt)
    (he : ∀ (s : Shared) (H : Hp) (C : Addr) (cl : List (Str × Addr)) (fp : List Addr), LE (X.blk s H scope (compEnvC scope cl C X.env) fp) W0 elt de) (hs : ∀ x, foldedSetIterable iter X.env x = pure x := by intro _; rfl) (hv : ∀ p, X.pin = some p → p.i ∉ own.map (·.2) := by intro _ z; cases z) :
    PS X (.Assign [.Name y py] (.ListComp elt [⟨tg, iter, ifs, 0⟩] scope pos) spos) (tAsg (liftE X W (dLc di g dt de (own.map (·.2)))) (gName i)) :=
  (ps_setLc hc hN hy hyl hsw hi ok hg ht he hs).imp fun D σ H h => low_lc hv σ H _ h
end
end Dn

namespace Dn
open PySem PySem.Spec L2

/-! ### what a def leaves behind: the store cut back to what stood ahead -/
mutual
def T.lt (n : Nat) : T → Bool
  | .non => true
  | .bl _ => true
  | .int _ => true
  | .str _ => true
  | .tup ts => T.lts n ts
  | .lst ts => T.lts n ts
  | .nlst ts => T.lts n ts
  | .flst ts => T.lts n ts
  | .ktup ts => T.lts n ts
  | .ref i => decide (i < n)
  | .dic kvs => T.ltk n kvs
def T.lts (n : Nat) : List T → Bool
  | [] => true
  | t :: ts => T.lt n t && T.lts n ts
def T.ltk (n : Nat) : List (Key × T) → Bool
  | [] => true
  | (_, t) :: ts => T.lt n t && T.ltk n ts
end
def MO.lt (n : Nat) : MO → Bool
  | .lst ts => T.lts n ts
  | .dK kvs => kvs.all fun p => T.lt n p.2
  | .dT kvs => kvs.all fun p => T.lt n p.2
  | .ins _ fs => fs.all fun p => T.lt n p.2
section
variable {K : PySem.W.Frag} {w : World} {H H' : Hp} {ρ new av : List Addr}
mutual
theorem RepV.lt : ∀ {v : V} {t : T}, RepV K w H ρ av v t → t.lt ρ.length = true
  | _, _, .non => rfl
  | _, _, .bl b => rfl
  | _, _, .int b => rfl
  | _, _, .str b => rfl
  | _, _, .tup h r => RepVs.lt r
  | _, _, .tupK h r => RepVs.lt r
  | _, _, .lst h h1 h2 r => RepVs.lt r
  | _, _, .flst h r => RepVs.lt r
  | _, _, .ref h => by rw [T.lt]; exact decide_eq_true (List.getElem?_eq_some_iff.mp h).1
  | _, _, .dic h h1 h2 r => RepKs.lt r
  | _, _, .dicK h hx r => RepKs.lt r
theorem RepVs.lt : ∀ {v : List V} {t : List T}, RepVs K w H ρ av v t → T.lts ρ.length t = true
  | _, _, .nil => rfl
  | _, _, .cons r rs => by rw [T.lts, RepV.lt r, RepVs.lt rs]; rfl
theorem RepKs.lt : ∀ {v : List (Key × V)} {t : List (Key × T)}, RepKs K w H ρ av v t → T.ltk ρ.length t = true
  | _, _, .nil => rfl
  | _, _, .cons r rs => by rw [T.ltk, RepV.lt r, RepKs.lt rs]; rfl
end
mutual
/-- the later places are forgotten; one of them may be told to be avoided -/
theorem RepV.cut {as : List Addr} (hs : ∀ a ∈ as, a ∈ new) : ∀ {v : V} {t : T}, RepV K w H (ρ ++ new) av v t → t.lt ρ.length = true → RepV K w H ρ (as ++ av) v t
  | _, _, .non, _ => .non
  | _, _, .bl b, _ => .bl b
  | _, _, .int b, _ => .int b
  | _, _, .str b, _ => .str b
  | _, _, .tup h r, c => .tup h (RepVs.cut hs r (by simpa [T.lt] using c))
  | _, _, .tupK h r, c => .tupK h (RepVs.cut hs r (by simpa [T.lt] using c))
  | _, _, .lst h h1 h2 r, c => .lst h (fun z => h1 (List.mem_append_left _ z)) (fun z => (List.mem_append.mp z).elim (fun q => h1 (List.mem_append_right _ (hs _ q))) h2) (RepVs.cut hs r (by simpa [T.lt] using c))
  | _, _, .flst h r, c => .flst h (RepVs.cut hs r (by simpa [T.lt] using c))
  | .ref _, .ref i, .ref h, c => .ref (by
      rw [T.lt] at c
      have c' := of_decide_eq_true c
      rwa [List.getElem?_append_left c'] at h)
  | _, _, .dic h h1 h2 r, c => .dic h (fun z => h1 (List.mem_append_left _ z)) (fun z => (List.mem_append.mp z).elim (fun q => h1 (List.mem_append_right _ (hs _ q))) h2) (RepKs.cut hs r (by simpa [T.lt] using c))
  | _, _, .dicK h hx r, c => .dicK h hx (RepKs.cut hs r (by simpa [T.lt] using c))
theorem RepVs.cut {as : List Addr} (hs : ∀ a ∈ as, a ∈ new) : ∀ {v : List V} {t : List T}, RepVs K w H (ρ ++ new) av v t → T.lts ρ.length t = true → RepVs K w H ρ (as ++ av) v t
  | _, _, .nil, _ => .nil
  | _, _, .cons r rs, c => by
    rw [T.lts, Bool.and_eq_true] at c
    exact .cons (RepV.cut hs r c.1) (RepVs.cut hs rs c.2)
theorem RepKs.cut {as : List Addr} (hs : ∀ a ∈ as, a ∈ new) : ∀ {v : List (Key × V)} {t : List (Key × T)}, RepKs K w H (ρ ++ new) av v t → T.ltk ρ.length t = true → RepKs K w H ρ (as ++ av) v t
  | _, _, .nil, _ => .nil
  | _, _, .cons r rs, c => by
    rw [T.ltk, Bool.and_eq_true] at c
    exact .cons (RepV.cut hs r c.1) (RepKs.cut hs rs c.2)
end
theorem RepKd.cut {κ : Type} {as : List Addr} (hs : ∀ a ∈ as, a ∈ new) : ∀ {vs : List (κ × V)} {ts : List (κ × T)}, RepKd K w H (ρ ++ new) av vs ts → (ts.all fun p => T.lt ρ.length p.2) = true → RepKd K w H ρ (as ++ av) vs ts
  | _, _, .nil, _ => .nil
  | _, _, .cons r rs, c => by
    rw [List.all_cons, Bool.and_eq_true] at c
    exact .cons ⟨r.1, r.2.cut hs c.1⟩ (RepKd.cut hs rs c.2)
theorem RepKd.lt {κ : Type} : ∀ {vs : List (κ × V)} {ts : List (κ × T)}, RepKd K w H ρ av vs ts → (ts.all fun p => T.lt ρ.length p.2) = true
  | _, _, .nil => rfl
  | _, _, .cons r rs => by rw [List.all_cons, r.2.lt, RepKd.lt rs]; rfl
theorem RepO.lt {a : Addr} {o : MO} (h : RepO K w H ρ av a o) : o.lt ρ.length = true := by
  cases o with
  | lst ts => obtain ⟨vs, h1, h2⟩ := h; exact h2.lt
  | dK ts => obtain ⟨vs, h1, h2⟩ := h; exact RepKd.lt h2
  | dT ts => obtain ⟨vs, h1, h2⟩ := h; exact RepKd.lt h2
  | ins c fs => exact h.elim
theorem RepO.cut {as : List Addr} (hs : ∀ a ∈ as, a ∈ new) {a : Addr} {o : MO} (h : RepO K w H (ρ ++ new) av a o) (c : o.lt ρ.length = true) : RepO K w H ρ (as ++ av) a o := by
  cases o with
  | lst ts => obtain ⟨vs, h1, h2⟩ := h; exact ⟨vs, h1, h2.cut hs c⟩
  | dK ts => obtain ⟨vs, h1, h2⟩ := h; exact ⟨vs, h1, RepKd.cut hs h2 c⟩
  | dT ts => obtain ⟨vs, h1, h2⟩ := h; exact ⟨vs, h1, RepKd.cut hs h2 c⟩
  | ins c fs => exact h.elim
end
/-- the old part of the store tells of nothing new -/
def CutOk (S S' : Sto) : Prop := S.length ≤ S'.length ∧ ∀ i : Nat, i < S.length → ∀ o, S'[i]? = some o → S[i]? = some o ∨ o.lt S.length = true
section
variable {K : PySem.W.Frag} {w : World} {H H' : Hp} {ρ ρ' av : List Addr} {S S' : Sto}
theorem RepS.cut {new as av0 : List Addr} (s0 : RepS K w H ρ av0 S) (s : RepS K w H' (ρ ++ new) av S') (c : CutOk S S') (hs : ∀ a ∈ as, a ∈ new) : RepS K w H' ρ (as ++ av) (S'.take S.length) := by
  have hn := (List.nodup_append.mp s.nd)
  refine ⟨?_, hn.1, fun i a o h1 h2 => ?_, fun a ha => ?_⟩
  · rw [List.length_take, s0.len]; have := c.1; omega
  · have hi : i < S.length := by rw [← s0.len]; exact (List.getElem?_eq_some_iff.mp h1).1
    rw [List.getElem?_take_of_lt hi] at h2
    refine (s.obj i a o (by rw [List.getElem?_append_left (by rw [s0.len]; exact hi)]; exact h1) h2).cut hs ?_
    rcases c.2 i hi o h2 with q | q
    · exact (s0.obj i a o h1 q).lt
    · rw [s0.len]; exact q
  · rcases List.mem_append.mp ha with h | h
    · refine ⟨?_, fun z => hn.2.2 _ z _ (hs _ h) rfl⟩
      obtain ⟨u, hu, _⟩ := s.there (List.mem_append_right _ (hs _ h))
      rw [hu]; simp
    · exact ⟨(s.out a h).1, fun z => (s.out a h).2 (List.mem_append_left _ z)⟩
theorem Ext.cut {new : List Addr} (e : Ext H ρ H' (ρ ++ new)) : Ext H ρ H' ρ := ⟨⟨[], by simp⟩, fun a h => .inl h, e.keep, e.imm, e.dom⟩
end
open Classical in
/-- the result of a body that told t, leaving S'; S stood ahead -/
noncomputable def gcT (S : Sto) (t : T) (S' : Sto) : RE :=
  if CutOk S S' then
    if t.lt S.length = true then .ok t (S'.take S.length)
    else match t with
      | .ref k => (match S'[k]? with
        | some (.lst ts) => if T.lts S.length ts = true then .ok (.nlst ts) (S'.take S.length) else .ok t S'
        | _ => .ok t S')
      | t => .ok t S'
  else .ok t S'
open Classical in
noncomputable def gcX (S : Sto) (c : Str) (fs : Flds) (S' : Sto) : RE := if CutOk S S' ∧ (fs.all fun p => T.lt S.length p.2) = true then .exc c fs (S'.take S.length) else .exc c fs S'
noncomputable def gcR (S : Sto) : RS → RE
  | .nx _ S' => gcT S .non S'
  | .rt t S' => gcT S t S'
  | .exc c fs _ S' => gcX S c fs S'
  | _ => .bad
/-- a def of np parameters, n names, by its body -/
noncomputable def dFun (np n : Nat) (b : DS) : DF := fun ts S => if ts.length = np then gcR S (b (ts.map some ++ List.replicate (n - np) none) S) else .bad

/-! ### a def's promise -/
section
variable (K : PySem.W.Frag) (w : World) (mg : Str → Option Value)
def GoodF (H : Hp) (ρ av : List Addr) (Q : VK) (E : XK) : RE → Prop
  | .ok t S' => ∀ v H' ρ', Ext H ρ H' ρ' → RepS K w H' ρ' (avN v t av) S' → RepR K w H' ρ' av H v t → Q v H'
  | .exc c fs S' => ∀ cls dd H' ρ', Ext H ρ H' ρ' → RepS K w H' ρ' av S' → RepX K w H' ρ' av mg cls dd c fs → E cls dd H'
  | .bad => False
def spD (np : Nat) (d : DF) : Sp := fun vs H Q E => vs.length = np ∧ ∃ ρ av ts S, RepS K w H ρ av S ∧ RepVs K w H ρ av vs ts ∧ GoodF K w mg H ρ av Q E (d ts S)
end
def WF (E : XK) : WX := fun cls d _ H' => E cls d H'
theorem start_rep {K : PySem.W.Frag} {w : World} {H : Hp} {ρ av : List Addr} {N : List Str} {vs : List V} {ts : List T} (r : RepVs K w H ρ av vs ts) : RepE K w none H ρ av (L2.start N vs) (ts.map some ++ List.replicate (N.length - ts.length) none) := by
  unfold L2.start
  refine ⟨by simp [r.length], fun i t h => ?_, fun _ z => nomatch z⟩
  by_cases hi : i < ts.length
  · rw [List.getElem?_append_left (by simpa using hi), List.getElem?_map] at h
    have ht : ts[i]? = some t := by
      cases e : ts[i]? with
      | none => rw [e] at h; cases h
      | some u => rw [e] at h; cases h; rfl
    obtain ⟨v, hv, rv⟩ := r.get ht
    refine ⟨v, ?_, rv⟩
    rw [List.getElem?_append_left (by rw [List.length_map, r.length]; exact hi), List.getElem?_map, hv]
    rfl
  · rw [List.getElem?_append_right (by simpa using hi), List.getElem?_replicate] at h
    split at h <;> cases h
/-- the cut result from the body's -/
theorem good_gcT {K : PySem.W.Frag} {w : World} {mg : Str → Option Value} {H : Hp} {ρ av : List Addr} {S S' : Sto} {Q : VK} {E : XK} {t : T} (s0 : RepS K w H ρ av S) (g : GoodF K w mg H ρ av Q E (gcT S t S')) {v : V} {H' : Hp} {ρ' : List Addr}
    (e : Ext H ρ H' ρ') (s : RepS K w H' ρ' (avN v t av) S') (r : RepR K w H' ρ' av H v t) : Q v H' := by
  obtain ⟨new, rfl⟩ := e.pre
  unfold gcT at g
  split at g
  · rename_i c
    have hnil : ∀ a ∈ ([] : List Addr), a ∈ new := fun _ h => nomatch h
    split at g
    · rename_i hlt
      refine g v H' ρ e.cut ?_ ?_
      · cases t with
        | nlst us =>
          obtain ⟨a, vs, rfl, h0, h1, h2, h3, h4⟩ := r
          exact RepS.cut (av := a :: av) (as := []) s0 s c hnil
        | _ => exact RepS.cut (as := []) s0 s c hnil
      · cases t with
        | nlst us =>
          obtain ⟨a, vs, rfl, h0, h1, h2, h3, h4⟩ := r
          exact ⟨a, vs, rfl, h0, h1, fun z => h2 (List.mem_append_left _ z), h3, RepVs.cut (as := []) hnil h4 (by rw [s0.len]; simpa [T.lt] using hlt)⟩
        | _ => exact RepV.cut (as := []) hnil r (by rw [s0.len]; exact hlt)
    · rename_i hn
      split at g
      · rename_i k
        split at g
        · rename_i us hk
          split at g
          · rename_i hlt
            have r' : RepV K w H' (ρ ++ new) av v (.ref k) := r
            cases r' with
            | @ref a _ ha =>
              have hkn : ¬ k < ρ.length := by
                intro z
                apply hn
                rw [T.lt]
                exact decide_eq_true (by rw [← s0.len]; exact z)
              have han : a ∈ new := by
                rw [List.getElem?_append_right (by omega)] at ha
                exact List.mem_of_getElem? ha
              have har : a ∉ ρ := fun z => (List.nodup_append.mp s.nd).2.2 _ z _ han rfl
              obtain ⟨o, ho, ro⟩ := s.of_ref ha
              rw [hk] at ho; cases ho
              obtain ⟨vs, g1, g2⟩ := ro
              have h0 : H a = none := (e.new a (List.mem_append_right _ han)).resolve_left har
              have hs : ∀ b ∈ [a], b ∈ new := fun b h => by rw [List.mem_singleton.mp h]; exact han
              exact g (.ref a) H' ρ e.cut (RepS.cut (as := [a]) s0 s c hs) ⟨a, vs, rfl, h0, g1, har, fun z => (s.out a z).2 (List.mem_append_right _ han), RepVs.cut (as := [a]) hs g2 (by rw [s0.len]; exact hlt)⟩
          · exact g v H' _ e s r
        · exact g v H' _ e s r
      · exact g v H' _ e s r
  · exact g v H' _ e s r
theorem good_gcX {K : PySem.W.Frag} {w : World} {mg : Str → Option Value} {H : Hp} {ρ av : List Addr} {S S' : Sto} {Q : VK} {E : XK} {c : Str} {fs : Flds} (s0 : RepS K w H ρ av S) (g : GoodF K w mg H ρ av Q E (gcX S c fs S')) {cls : Value} {dd : Option Addr} {H' : Hp} {ρ' : List Addr}
    (e : Ext H ρ H' ρ') (s : RepS K w H' ρ' av S') (r : RepX K w H' ρ' av mg cls dd c fs) : E cls dd H' := by
  obtain ⟨new, rfl⟩ := e.pre
  unfold gcX at g
  split at g
  · rename_i c
    have hnil : ∀ a ∈ ([] : List Addr), a ∈ new := fun _ h => nomatch h
    obtain ⟨C, h1, h2, d, vs, h3, h4, h5, h6, h7⟩ := r
    refine g cls dd H' ρ e.cut (RepS.cut (as := []) s0 s c.1 hnil) ⟨C, h1, h2, d, vs, h3, h4, fun z => h5 (List.mem_append_left _ z), h6, RepKd.cut (as := []) hnil h7 (by rw [s0.len]; exact c.2)⟩
  · exact g cls dd H' _ e s r
section
variable {X : DX} {W : WX}
/-- f(e, ..) -/
def dOwn (np : Nat) (d : DF) (da : DA) : DE := fun sl S => (da sl S).bind fun ts S1 => if ts.length = np then d ts S1 else .bad
theorem le_own {k : Nat} {f : Addr} {fd : FuncData} {ps : List Str} {d : DF} {x : Str} {p pos : Pos} {e : Expr} {es : List Expr} {da : DA} (F : FnOk X.prog X.w X.K X.mg X.base (L2N.CX X.prog X.w) k f fd ps (spD X.K X.w X.mg ps.length d)) (hr : Room k X.A) (hg : Gl X x) (hm : X.mg x = some (.ref f))
    (hk : PySem.W.keepIn X.K (.ref f) = true) (hb : Binds X.K fd ps []) (tk : L2N.Takes X W) (ha : LA X W (e :: es) da) (hdb : (x == ("__debug__" : Str)) = false := by decide) (he : starEach (e :: es) X.env = (false, eval e X.env) :: starEach es X.env := by rfl)
    (hpl : (backTo pos (starEach es X.env)).any (·.1) = false := by rfl) : LE X W (.Call (.Name x p) (e :: es) [] pos) (dOwn ps.length d da) :=
  (pe_callS F hr hg hm hk hb (fun σ => L2N.passAt tk σ) ha hdb he hpl).imp fun σ H Q ⟨ρ, av, sl, S, hs, hE, g⟩ => ⟨ρ, av, sl, S, hs, hE, GoodA.step g fun ts S1 vs H1 ρ1 e1 s1 r1 g1 => by
    split at g1
    · rename_i hl
      refine ⟨by rw [r1.length]; exact hl, ρ1, av, ts, S1, s1, r1, ?_⟩
      cases h : d ts S1 with
      | ok t S2 => rw [h] at g1; exact g1
      | exc c fs S2 => rw [h] at g1; exact g1
      | bad => rw [h] at g1; exact g1
    · exact g1.elim⟩
end
end Dn

namespace Dn
open PySem PySem.Spec L2

/-! ### sorted, of what reads as data -/
def rSortedDT (K : PySem.W.Frag) : List V → Hp → VK → Prop := fun vs H Q => ∃ (a : Addr) (xs : List (V × PyData)), vs = [V.ref a] ∧ SqL K H a (xs.map (·.1)) ∧ (∀ p ∈ xs, Dp K H p.1 p.2 ∧ p.2.depth ≤ 60) ∧
  PySem.W.AllAlike (xs.map (·.2)) ∧ PySem.W.Sortable (xs.map (·.2)) ∧ xs.length ≤ sizeLine ∧
  ∀ p, H p = none → Q (.ref p) (upd H p (.lst ((xs.mergeSort (PySem.W.dataLe false fun q => q.2)).map (·.1))))
theorem each_of_vals {P : Value → V × PyData → Prop} : ∀ {xs : List (V × PyData)} {us : List Value}, Vals (xs.map (·.1)) us → (∀ p ∈ xs, ∀ u, RelV p.1 u → P u p) → PySem.W.EachIs P us xs
  | [], [], _, _ => .nil
  | p :: xs, u :: us, .cons r rs, h => .cons (h p List.mem_cons_self u r) (each_of_vals rs fun q hq => h q (List.mem_cons_of_mem _ hq))
theorem vals_of_each : ∀ {xs : List (V × PyData)} {us : List Value}, PySem.W.EachIs (fun u (p : V × PyData) => RelV p.1 u) us xs → Vals (xs.map (·.1)) us
  | _, _, .nil => .nil
  | _, _, .cons r rs => .cons r (vals_of_each rs)
theorem cr_sortedDT {X : DX} (hu : X.A.units + 65 < cLine) : CallR X (.builtin "sorted") (rSortedDT X.K) := by
  intro pins s σ H vs us Q I r h
  obtain ⟨a, xs, rfl, hs, hd, hal, hso, hl, q⟩ := h
  obtain ⟨its, rv, hL, _⟩ := I.list hs
  rw [Vals.ref1 r]
  refine PySem.W.sorted_data (R := fun u (p : V × PyData) => RelV p.1 u) (enc := fun q => q.2) hL.isList (each_of_vals rv fun _ _ _ h => h) (each_of_vals rv fun p hp u hr => Dp.reads I p.2 p.1 u (hd p hp).1 hr) hal hso hl (fun p hp => by have := (hd p hp).2; omega) fun out ho he => ?_
  obtain ⟨ep, he'⟩ := PyProof.Rows.sortedAll_at s.heap its out.toArray
  have hlen : ((xs.mergeSort (PySem.W.dataLe false fun q => q.2)).map (·.1)).length ≤ sizeLine := by rw [List.length_map, List.length_mergeSort]; exact hl
  exact ⟨.ref _, upd H (s.heap.objs.size + 1) (.lst ((xs.mergeSort (PySem.W.dataLe false fun q => q.2)).map (·.1))), I.laid (t' := s.toks) (fun _ _ => PyProof.Rows.sortedAll_old) (Nat.le_succ _) ⟨hlen, out, ep, vals_of_each he, he'⟩, rfl, q _ (I.hok.fresh (Nat.le_succ _))⟩
def alikeT (ts : List T) : Bool := ts.all fun t => ts.all fun u => PySem.W.alike t.dat u.dat
def sortT (ts : List T) : Bool := (ts.all fun t => match t.dat with | .tuple (_ :: _) => true | _ => false) || ts.all fun t => match t.dat with | .none => false | .tuple _ => false | _ => true
def leT : T → T → Bool := PySem.W.dataLe false T.dat
def fSorted : List T → Sto → RE := fun ts S => match ts with
  | [x] => (match lstOf S x with
    | some us => if us.length ≤ sizeLine ∧ (us.all fun t => fit t.dat && decide (t.dat.depth ≤ 60)) = true ∧ alikeT us = true ∧ sortT us = true then .ok (.nlst (us.mergeSort leT)) S else .bad
    | none => .bad)
  | _ => .bad

section
variable {K : PySem.W.Frag} {w : World} {H H' : Hp} {ρ av : List Addr}
theorem RepVs.zip3 : ∀ {vs : List V} {ts : List T}, RepVs K w H ρ av vs ts → ∃ xs : List (V × T), xs.map (·.1) = vs ∧ xs.map (·.2) = ts ∧ ∀ p ∈ xs, RepV K w H ρ av p.1 p.2
  | _, _, .nil => ⟨[], rfl, rfl, fun _ h => nomatch h⟩
  | _, _, .cons (v := v) (t := t) r rs => by
    obtain ⟨xs, e1, e2, e3⟩ := RepVs.zip3 rs
    refine ⟨(v, t) :: xs, by rw [List.map_cons, e1], by rw [List.map_cons, e2], fun p hp => ?_⟩
    rcases List.mem_cons.mp hp with rfl | hp
    · exact r
    · exact e3 p hp
theorem RepVs.of_zip : ∀ {xs : List (V × T)}, (∀ p ∈ xs, RepV K w H ρ av p.1 p.2) → RepVs K w H ρ av (xs.map (·.1)) (xs.map (·.2))
  | [], _ => .nil
  | p :: xs, h => .cons (h p List.mem_cons_self) (RepVs.of_zip fun q hq => h q (List.mem_cons_of_mem _ hq))
theorem map_mergeSort {α β : Type} (f : α → β) (le : β → β → Bool) (xs : List α) : (xs.mergeSort fun a b => le (f a) (f b)).map f = (xs.map f).mergeSort le := by
  exact (List.map_mergeSort (r := fun a b => le (f a) (f b)) (s := le) (f := f) (l := xs) (fun _ _ _ _ => rfl))
end
section
variable {X : DX} {W : WX}
theorem od_sorted : OpDs X (rSortedDT X.K) fSorted := by
  intro W σ H ρ av S vs ts Q hs rs q
  unfold fSorted at q
  split at q
  · rename_i x
    cases rs with
    | @cons v t vs ts r rs' =>
    cases rs'
    split at q
    · rename_i us hus
      split at q
      · rename_i c
        obtain ⟨c1, c2, c3, c4⟩ := c
        obtain ⟨a, zs, rfl, hq, rz⟩ := lst_rep hs r hus
        obtain ⟨xs, e1, e2, e3⟩ := rz.zip3
        have mm : ∀ {α : Type} (f : V × T → α), xs.map f = xs.map f := fun _ => rfl
        refine ⟨a, xs.map fun p => (p.1, p.2.dat), rfl, ?_, ?_, ?_, ?_, ?_, fun p hp => ?_⟩
        · rw [List.map_map]
          show SqL X.K H a (xs.map (·.1))
          rw [e1]; exact hq
        · intro p hp
          obtain ⟨z, hz, rfl⟩ := List.mem_map.mp hp
          have hm : z.2 ∈ us := by rw [← e2]; exact List.mem_map_of_mem hz
          have c := List.all_eq_true.mp c2 z.2 hm
          rw [Bool.and_eq_true] at c
          exact ⟨(e3 z hz).dp (lay_of_fit c.1), of_decide_eq_true c.2⟩
        · intro d hd d' hd'
          rw [List.map_map] at hd hd'
          obtain ⟨z, hz, rfl⟩ := List.mem_map.mp hd
          obtain ⟨z', hz', rfl⟩ := List.mem_map.mp hd'
          have hm : z.2 ∈ us := by rw [← e2]; exact List.mem_map_of_mem hz
          have hm' : z'.2 ∈ us := by rw [← e2]; exact List.mem_map_of_mem hz'
          exact List.all_eq_true.mp (List.all_eq_true.mp c3 z.2 hm) z'.2 hm'
        · unfold sortT at c4
          rw [Bool.or_eq_true] at c4
          rcases c4 with c4 | c4
          · refine .inl fun d hd => ?_
            rw [List.map_map] at hd
            obtain ⟨z, hz, rfl⟩ := List.mem_map.mp hd
            have hm : z.2 ∈ us := by rw [← e2]; exact List.mem_map_of_mem hz
            have c := List.all_eq_true.mp c4 z.2 hm
            simp only [Function.comp]
            split at c
            · rename_i x r e; exact ⟨x, r, e⟩
            · cases c
          · refine .inr fun d hd => ?_
            rw [List.map_map] at hd
            obtain ⟨z, hz, rfl⟩ := List.mem_map.mp hd
            have hm : z.2 ∈ us := by rw [← e2]; exact List.mem_map_of_mem hz
            have c := List.all_eq_true.mp c4 z.2 hm
            simp only [Function.comp]
            refine ⟨fun e => ?_, fun us e => ?_⟩
            · rw [e] at c; cases c
            · rw [e] at c; cases c
        · rw [List.length_map]
          have : xs.length = us.length := by rw [← e2, List.length_map]
          rw [this]; exact c1
        · have e4 : ((xs.map fun p => (p.1, p.2.dat)).mergeSort (PySem.W.dataLe false fun q => q.2)) = (xs.mergeSort fun p q => leT p.2 q.2).map fun p => (p.1, p.2.dat) :=
            (map_mergeSort (fun p : V × T => (p.1, p.2.dat)) (PySem.W.dataLe false fun q => q.2) xs).symm
          rw [e4, List.map_map]
          have e5 : us.mergeSort leT = (xs.mergeSort fun p q => leT p.2 q.2).map (·.2) := by
            rw [← e2]; exact (map_mergeSort (fun p : V × T => p.2) leT xs).symm
          rw [e5] at q
          exact q.newLst hs (RepVs.of_zip (xs := xs.mergeSort fun p q => leT p.2 q.2) fun p hp => e3 p (List.mem_mergeSort.mp hp)) hp
      · exact q.elim
    · exact q.elim
  · exact q.elim

/-! ### len, int, abs, tuple, list, max, min, sum, str -/
def dlen (S : Sto) : T → Option Nat
  | .ref i => match S[i]? with
    | some (.dK kvs) => some kvs.length
    | some (.dT kvs) => some kvs.length
    | _ => none
  | _ => none
def fLen : List T → Sto → RE := fun ts S => match ts with
  | [.str z] => if z.length ≤ sizeLine then .ok (.int z.length) S else .bad
  | [x] => (match seqOf S x with
    | some us => .ok (.int us.length) S
    | none => match dlen S x with
      | some n => .ok (.int n) S
      | none => .bad)
  | _ => .bad
theorem call_len3 : CallR X (.builtin "len") (fun xs H Q => (∃ x n, xs = [x] ∧ LenV X.K x H n ∧ Q (.int n) H) ∨ (∃ a kvs, xs = [V.ref a] ∧ H a = some (.dK kvs) ∧ Q (.int kvs.length) H) ∨ rLenT xs H Q) := call_len.or (call_lenD.or call_len_dT)
theorem od_len : OpDs X (fun xs H Q => (∃ x n, xs = [x] ∧ LenV X.K x H n ∧ Q (.int n) H) ∨ (∃ a kvs, xs = [V.ref a] ∧ H a = some (.dK kvs) ∧ Q (.int kvs.length) H) ∨ rLenT xs H Q) fLen := by
  intro W σ H ρ av S vs ts Q hs rs q
  unfold fLen at q
  split at q
  · rename_i z
    cases rs with
    | cons r rs' =>
    cases rs'
    cases r.str_inv
    split at q
    · rename_i hl
      exact .inl ⟨_, z.length, rfl, ⟨hl, rfl⟩, q.now hs (.int _)⟩
    · exact q.elim
  · rename_i x
    cases rs with
    | cons r rs' =>
    cases rs'
    split at q
    · rename_i us hus
      obtain ⟨a, zs, rfl, hq, rz⟩ := seq_rep hs r hus
      rw [← rz.length] at q
      exact .inl ⟨_, zs.length, rfl, hq.imp (fun h => ⟨zs, h, rfl⟩) (fun h => ⟨zs, h, rfl⟩), q.now hs (.int _)⟩
    · split at q
      · rename_i n hn
        unfold dlen at hn
        split at hn
        · rename_i i
          cases r with
          | @ref a _ ha =>
          obtain ⟨o, ho, ro⟩ := hs.of_ref ha
          rw [ho] at hn
          cases o with
          | dK kvs =>
            cases hn
            obtain ⟨zs, h1, h2⟩ := ro
            rw [← Paired.length h2] at q
            exact .inr (.inl ⟨a, zs, rfl, h1, q.now hs (.int _)⟩)
          | dT kvs =>
            cases hn
            obtain ⟨zs, h1, h2⟩ := ro
            rw [← Paired.length h2] at q
            exact .inr (.inr ⟨a, zs, rfl, h1, q.now hs (.int _)⟩)
          | _ => cases hn
        · cases hn
      · exact q.elim
  · exact q.elim
def fInt1 : List T → Sto → RE := fun ts S => match ts with
  | [.int i] => .ok (.int i) S
  | [.bl b] => .ok (.int (if b then 1 else 0)) S
  | [.str x] => (match PySem.intText? x with
    | some n => if x.length ≤ 640 then .ok (.int n) S else .bad
    | none => .bad)
  | _ => .bad
def rInt2 : List V → Hp → VK → Prop := fun xs H Q => ((∃ i, xs = [.int i] ∧ Q (.int i) H) ∨ ∃ k, xs = [.bl k] ∧ Q (.int (if k then 1 else 0)) H) ∨ ∃ a n, xs = [.str a] ∧ PySem.intText? a = some n ∧ a.length ≤ 640 ∧ Q (.int n) H
theorem call_int3 : CallR X (.type "int") rInt2 := call_int1.or call_int_str
theorem od_int1 : OpDs X rInt2 fInt1 := by
  intro W σ H ρ av S vs ts Q hs rs q
  unfold fInt1 at q
  split at q
  · cases rs with
    | cons r rs' => cases rs'; cases r.int_inv; exact .inl (.inl ⟨_, rfl, q.now hs (.int _)⟩)
  · cases rs with
    | cons r rs' => cases rs'; cases r.bl_inv; exact .inl (.inr ⟨_, rfl, q.now hs (.int _)⟩)
  · cases rs with
    | cons r rs' =>
    cases rs'; cases r.str_inv
    split at q
    · rename_i n hn
      split at q
      · rename_i hl; exact .inr ⟨_, _, rfl, hn, hl, q.now hs (.int _)⟩
      · exact q.elim
    · exact q.elim
  · exact q.elim
def fAbs : List T → Sto → RE := fun ts S => match ts with
  | [.int i] => .ok (.int (if i < 0 then -i else i)) S
  | _ => .bad
theorem od_abs : OpDs X (fun xs H Q => ∃ i, xs = [.int i] ∧ Q (.int (if i < 0 then -i else i)) H) fAbs := by
  intro W σ H ρ av S vs ts Q hs rs q
  unfold fAbs at q
  split at q
  · cases rs with
    | cons r rs' => cases rs'; cases r.int_inv; exact ⟨_, rfl, q.now hs (.int _)⟩
  · exact q.elim
theorem signs_rep {K : PySem.W.Frag} {w : World} {H : Hp} {ρ av : List Addr} {z : Str} : RepVs K w H ρ av (chV z) (signs z) := by
  unfold chV signs
  induction z.cps.toList with
  | nil => exact .nil
  | cons c l ih => exact .cons (.str _) ih
def fTuple : List T → Sto → RE := fun ts S => match ts with
  | [.tup us] => .ok (.tup us) S
  | [.ktup us] => .ok (.ktup us) S
  | [.str z] => if z.length ≤ sizeLine then .ok (.tup (signs z)) S else .bad
  | [x] => (match lstOf S x with
    | some us => .ok (.tup us) S
    | none => .bad)
  | _ => .bad
theorem od_tuple : OpDs X (rTupA X.K) fTuple := by
  intro W σ H ρ av S vs ts Q hs rs q
  unfold fTuple at q
  split at q
  · cases rs with
    | cons r rs' =>
    cases rs'
    obtain ⟨a, zs, rfl, hq, rz⟩ := tup_rep r
    exact .inl ⟨a, zs, rfl, .inr ⟨hq, q.now hs r⟩⟩
  · cases rs with
    | cons r rs' =>
    cases rs'
    cases r with
    | tupK h rz => exact .inl ⟨_, _, rfl, .inr ⟨.inr h, q.now hs (.tupK h rz)⟩⟩
  · cases rs with
    | cons r rs' =>
    cases rs'
    cases r.str_inv
    split at q
    · rename_i hl
      exact .inr ⟨_, rfl, hl, fun p hp => q.newTup hs signs_rep hp⟩
    · exact q.elim
  · cases rs with
    | cons r rs' =>
    cases rs'
    split at q
    · rename_i us hus
      obtain ⟨a, zs, rfl, hq, rz⟩ := lst_rep hs r hus
      exact .inl ⟨a, zs, rfl, .inl ⟨hq, fun l hl => q.newTup hs rz hl⟩⟩
    · exact q.elim
  · exact q.elim
def fList : List T → Sto → RE := fun ts S => match ts with
  | [.str z] => if z.length ≤ sizeLine then .ok (.nlst (signs z)) S else .bad
  | [x] => (match seqOf S x with
    | some us => .ok (.nlst us) S
    | none => .bad)
  | _ => .bad
theorem od_list : OpDs X (rListA X.K) fList := by
  intro W σ H ρ av S vs ts Q hs rs q
  unfold fList at q
  split at q
  · cases rs with
    | cons r rs' =>
    cases rs'
    cases r.str_inv
    split at q
    · rename_i hl
      exact .inr ⟨_, rfl, hl, fun p hp => q.newLst hs signs_rep hp⟩
    · exact q.elim
  · cases rs with
    | cons r rs' =>
    cases rs'
    split at q
    · rename_i us hus
      obtain ⟨a, zs, rfl, hq, rz⟩ := seq_rep hs r hus
      exact .inl ⟨a, zs, rfl, hq, fun l hl => q.newLst hs rz hl⟩
    · exact q.elim
  · exact q.elim
def fMax2 : List T → Sto → RE := fun ts S => match ts with
  | [.int i, .int j] => .ok (.int (if j > i then j else i)) S
  | _ => .bad
def fMin2 : List T → Sto → RE := fun ts S => match ts with
  | [.int i, .int j] => .ok (.int (if j < i then j else i)) S
  | _ => .bad
theorem od_max2 : OpDs X (fun xs H Q => ∃ i j, xs = [.int i, .int j] ∧ Q (.int (if j > i then j else i)) H) fMax2 := by
  intro W σ H ρ av S vs ts Q hs rs q
  unfold fMax2 at q
  split at q
  · cases rs with
    | cons r rs' =>
    cases rs' with
    | cons r2 rs'' => cases rs''; cases r.int_inv; cases r2.int_inv; exact ⟨_, _, rfl, q.now hs (.int _)⟩
  · exact q.elim
theorem od_min2 : OpDs X (fun xs H Q => ∃ i j, xs = [.int i, .int j] ∧ Q (.int (if j < i then j else i)) H) fMin2 := by
  intro W σ H ρ av S vs ts Q hs rs q
  unfold fMin2 at q
  split at q
  · cases rs with
    | cons r rs' =>
    cases rs' with
    | cons r2 rs'' => cases rs''; cases r.int_inv; cases r2.int_inv; exact ⟨_, _, rfl, q.now hs (.int _)⟩
  · exact q.elim
def intsT : List T → Option (List Int)
  | [] => some []
  | .int i :: ts => (intsT ts).map (i :: ·)
  | _ => none
theorem ints_rep {K : PySem.W.Frag} {w : World} {H : Hp} {ρ av : List Addr} : ∀ {vs : List V} {ts : List T} {ns : List Int}, RepVs K w H ρ av vs ts → intsT ts = some ns → vs = ns.map V.int
  | _, _, _, .nil, h => by cases h; rfl
  | _, _, ns, .cons (t := t) (ts := ts) r rs, h => by
    unfold intsT at h
    split at h
    · rename_i e; cases e
    · rename_i i us e
      cases e
      obtain ⟨ms, e1, rfl⟩ := Option.map_eq_some_iff.mp h
      cases r.int_inv
      rw [ints_rep rs e1]; rfl
    · cases h
def fSum : List T → Sto → RE := fun ts S => match ts with
  | [x] => (match lstOf S x with
    | some us => (match intsT us with
      | some ns => .ok (.int ns.sum) S
      | none => .bad)
    | none => .bad)
  | _ => .bad
theorem od_sum : OpDs X (rSum X.K) fSum := by
  intro W σ H ρ av S vs ts Q hs rs q
  unfold fSum at q
  split at q
  · cases rs with
    | cons r rs' =>
    cases rs'
    split at q
    · rename_i us hus
      split at q
      · rename_i ns hns
        obtain ⟨a, zs, rfl, hq, rz⟩ := lst_rep hs r hus
        have e := ints_rep rz hns
        subst e
        exact ⟨a, ns, rfl, hq, q.now hs (.int _)⟩
      · exact q.elim
    · exact q.elim
  · exact q.elim
def fStr1 : List T → Sto → RE := fun ts S => match ts with
  | [.int i] => if i.natAbs.log2 < 1920 then .ok (.str (toString i)) S else .bad
  | _ => .bad
theorem od_str1 : OpDs X (fun xs H Q => ∃ i, xs = [.int i] ∧ i.natAbs.log2 < 1920 ∧ Q (.str (toString i)) H) fStr1 := by
  intro W σ H ρ av S vs ts Q hs rs q
  unfold fStr1 at q
  split at q
  · cases rs with
    | cons r rs' =>
    cases rs'
    split at q
    · rename_i hl
      cases r.int_inv; exact ⟨_, rfl, hl, q.now hs (.str _)⟩
    · exact q.elim
  · exact q.elim

variable {p pos : Pos} {e : Expr} {es : List Expr} {d : DA}
theorem le_len (hg : Gl X "len") (hm : X.mg "len" = none) (ha : LA X W (e :: es) d) (he : starEach (e :: es) X.env = (false, eval e X.env) :: starEach es X.env := by rfl) (hpl : (backTo pos (starEach es X.env)).any (·.1) = false := by rfl) : LE X W (.Call (.Name "len" p) (e :: es) [] pos) (dCall fLen d) :=
  le_blt od_len (pe_callB call_len3 hg hm PySem.boot_len ha (he := he) (hpl := hpl))
theorem le_int (hg : Gl X "int") (hm : X.mg "int" = none) (ha : LA X W (e :: es) d) (he : starEach (e :: es) X.env = (false, eval e X.env) :: starEach es X.env := by rfl) (hpl : (backTo pos (starEach es X.env)).any (·.1) = false := by rfl) : LE X W (.Call (.Name "int" p) (e :: es) [] pos) (dCall fInt1 d) :=
  le_blt od_int1 (pe_callTy call_int3 hg hm PyProof.Rows.boot_int ha (he := he) (hpl := hpl))
theorem le_abs (hg : Gl X "abs") (hm : X.mg "abs" = none) (ha : LA X W (e :: es) d) (he : starEach (e :: es) X.env = (false, eval e X.env) :: starEach es X.env := by rfl) (hpl : (backTo pos (starEach es X.env)).any (·.1) = false := by rfl) : LE X W (.Call (.Name "abs" p) (e :: es) [] pos) (dCall fAbs d) :=
  le_blt od_abs (pe_callB call_abs hg hm PyProof.Rows.boot_abs ha (he := he) (hpl := hpl))
theorem le_tuple (hc : X.calm = true) (hg : Gl X "tuple") (hm : X.mg "tuple" = none) (ha : LA X W (e :: es) d) (he : starEach (e :: es) X.env = (false, eval e X.env) :: starEach es X.env := by rfl) (hpl : (backTo pos (starEach es X.env)).any (·.1) = false := by rfl) : LE X W (.Call (.Name "tuple" p) (e :: es) [] pos) (dCall fTuple d) :=
  le_blt od_tuple (pe_callTy (call_tupA hc) hg hm PyProof.Rows.boot_tuple ha (he := he) (hpl := hpl))
theorem le_list (hc : X.calm = true) (hg : Gl X "list") (hm : X.mg "list" = none) (ha : LA X W (e :: es) d) (he : starEach (e :: es) X.env = (false, eval e X.env) :: starEach es X.env := by rfl) (hpl : (backTo pos (starEach es X.env)).any (·.1) = false := by rfl) : LE X W (.Call (.Name "list" p) (e :: es) [] pos) (dCall fList d) :=
  le_blt od_list (pe_callTy (call_listA hc) hg hm PyProof.Rows.boot_list ha (he := he) (hpl := hpl))
theorem le_max2 (hc : X.calm = true) (hg : Gl X "max") (hm : X.mg "max" = none) (ha : LA X W (e :: es) d) (he : starEach (e :: es) X.env = (false, eval e X.env) :: starEach es X.env := by rfl) (hpl : (backTo pos (starEach es X.env)).any (·.1) = false := by rfl) : LE X W (.Call (.Name "max" p) (e :: es) [] pos) (dCall fMax2 d) :=
  le_blt od_max2 (pe_callB (call_max2 hc) hg hm PyProof.Rows.boot_max ha (he := he) (hpl := hpl))
theorem le_min2 (hc : X.calm = true) (hg : Gl X "min") (hm : X.mg "min" = none) (ha : LA X W (e :: es) d) (he : starEach (e :: es) X.env = (false, eval e X.env) :: starEach es X.env := by rfl) (hpl : (backTo pos (starEach es X.env)).any (·.1) = false := by rfl) : LE X W (.Call (.Name "min" p) (e :: es) [] pos) (dCall fMin2 d) :=
  le_blt od_min2 (pe_callB (call_min2 hc) hg hm PyProof.Rows.boot_min ha (he := he) (hpl := hpl))
theorem le_sum (hc : X.calm = true) (hg : Gl X "sum") (hm : X.mg "sum" = none) (ha : LA X W (e :: es) d) (he : starEach (e :: es) X.env = (false, eval e X.env) :: starEach es X.env := by rfl) (hpl : (backTo pos (starEach es X.env)).any (·.1) = false := by rfl) : LE X W (.Call (.Name "sum" p) (e :: es) [] pos) (dCall fSum d) :=
  le_blt od_sum (pe_callB (cr_sum hc) hg hm PyProof.Rows.boot_sum ha (he := he) (hpl := hpl))
theorem le_str1 (hg : Gl X "str") (hm : X.mg "str" = none) (ha : LA X W (e :: es) d) (he : starEach (e :: es) X.env = (false, eval e X.env) :: starEach es X.env := by rfl) (hpl : (backTo pos (starEach es X.env)).any (·.1) = false := by rfl) : LE X W (.Call (.Name "str" p) (e :: es) [] pos) (dCall fStr1 d) :=
  le_blt od_str1 (pe_callTy call_str_int hg hm PyProof.Rows.boot_str ha (he := he) (hpl := hpl))
theorem le_sorted (hu : X.A.units + 65 < cLine) (hg : Gl X "sorted") (hm : X.mg "sorted" = none) (ha : LA X W (e :: es) d) (he : starEach (e :: es) X.env = (false, eval e X.env) :: starEach es X.env := by rfl) (hpl : (backTo pos (starEach es X.env)).any (·.1) = false := by rfl) : LE X W (.Call (.Name "sorted" p) (e :: es) [] pos) (dCall fSorted d) :=
  le_blt od_sorted (pe_callB (cr_sortedDT hu) hg hm PyProof.Rows.boot_sorted ha (he := he) (hpl := hpl))

/-! ### isinstance(x, T), T a built-in type -/
def tyT (S : Sto) : T → Option String
  | .non => some "NoneType"
  | .bl _ => some "bool"
  | .int _ => some "int"
  | .str _ => some "str"
  | .tup _ => some "tuple"
  | .ktup _ => some "tuple"
  | .lst _ => some "list"
  | .nlst _ => some "list"
  | .flst _ => some "list"
  | .dic _ => some "dict"
  | .ref i => match S[i]? with
    | some (.lst _) => some "list"
    | some (.dK _) => some "dict"
    | some (.dT _) => some "dict"
    | _ => none
def isaB (a b : String) : Bool := a == b || (a == "bool" && b == "int")
def tyNames : List String := ["NoneType", "bool", "int", "str", "tuple", "list", "dict"]
theorem kit_all : (tyNames.all fun a => ["bool", "int", "str", "tuple", "list", "dict"].all fun b => decide (kitB a b = some (isaB a b))) = true := by decide +kernel
theorem kit_is {a b : String} (ha : a ∈ tyNames) (hb : b ∈ ["bool", "int", "str", "tuple", "list", "dict"]) : kitB a b = some (isaB a b) := of_decide_eq_true (List.all_eq_true.mp (List.all_eq_true.mp kit_all a ha) b hb)
theorem ty_rep {K : PySem.W.Frag} {w : World} {H : Hp} {ρ av : List Addr} {S : Sto} {v : V} {t : T} {n : String} (hs : RepS K w H ρ av S) (r : RepV K w H ρ av v t) (h : tyT S t = some n) : TyX K H v (.type n) ∧ n ∈ tyNames := by
  cases r with
  | non => cases h; exact ⟨.base .non, by decide⟩
  | bl b => cases h; exact ⟨.base (.bl _), by decide⟩
  | int b => cases h; exact ⟨.base (.int _), by decide⟩
  | str b => cases h; exact ⟨.base (.str _), by decide⟩
  | tup h' _ => cases h; exact ⟨.base (.tup h'), by decide⟩
  | tupK h' _ => cases h; obtain ⟨o, its, m, h1, h2, _⟩ := h'; exact ⟨.kTuple h1 h2, by decide⟩
  | lst h' _ _ _ => cases h; exact ⟨.base (.lst h'), by decide⟩
  | flst h' _ =>
    cases h
    rcases h' with ⟨o, h'⟩ | ⟨o, its, m, h1, h2, _⟩
    · exact ⟨.base (.frz h'), by decide⟩
    · exact ⟨.kList h1 h2, by decide⟩
  | @ref a i ha =>
    obtain ⟨o, ho, ro⟩ := hs.of_ref ha
    unfold tyT at h
    simp only [ho] at h
    cases o with
    | lst ts => cases h; obtain ⟨vs, h1, _⟩ := ro; exact ⟨.base (.lst h1), by decide⟩
    | dK ts => cases h; obtain ⟨vs, h1, _⟩ := ro; exact ⟨.base (.dK h1), by decide⟩
    | dT ts => cases h; obtain ⟨vs, h1, _⟩ := ro; exact ⟨.base (.dT h1), by decide⟩
    | ins c fs => exact ro.elim
  | dic h' _ _ _ =>
    cases h
    rcases h' with h' | ⟨o, h'⟩
    · exact ⟨.base (.dK h'), by decide⟩
    · exact ⟨.fDict h', by decide⟩
  | dicK h' _ _ =>
    cases h
    obtain ⟨es, m, D, _⟩ := h'
    exact ⟨.kDict D.at_ rfl, by decide⟩
/-- isinstance(e, T) -/
def dIsi (T : String) (d : DE) : DE := fun sl S => (d sl S).bind fun x S1 => match tyT S1 (fz x) with
  | some n => .ok (.bl (isaB n T)) S1
  | none => .bad
theorem le_isi {T : String} {x : Str} {p p2 pos : Pos} {e : Expr} {d : DE} (hb : T ∈ ["bool", "int", "str", "tuple", "list", "dict"]) (hg : Gl X "isinstance") (hm : X.mg "isinstance" = none) (hgT : Gl X x) (hmT : X.mg x = none) (hv : bootBuiltins x = some (.type T)) (h : LE X W e d)
    (he : starEach [e, .Name x p2] X.env = (false, eval e X.env) :: starEach [.Name x p2] X.env := by rfl) (hn : x ≠ "__name__" := by decide) (hdb : (x == ("__debug__" : Str)) = false := by decide) : LE X W (.Call (.Name "isinstance" p) [e, .Name x p2] [] pos) (dIsi T d) :=
  (pe_callB (r := rIsi X.K) (he := he) call_isi hg hm PyProof.Rows.boot_isinstance (pa_cons h (pa_cons (pe_bltn (v := .ty T) hgT hmT hv rfl hn hdb) pa_nil) he)).imp fun σ H Q ⟨ρ, av, sl, S, hs, hE, g⟩ => ⟨ρ, av, sl, S, hs, hE, GoodE.step g fun t S1 _ v H1 ρ1 e1 s1 r1 g1 => by
    cases hty : tyT S1 (fz t) with
    | none => simp only [hty] at g1; exact g1.elim
    | some n =>
      simp only [hty] at g1
      obtain ⟨k1, k2⟩ := ty_rep s1 r1.toV hty
      exact ⟨v, .ty T, .type n, .type T, isaB n T, rfl, .ty T, k1, kit_ty (kit_is k2 hb), g1.now s1 (.bl _)⟩⟩
end
end Dn

namespace Dn
open PySem PySem.Spec L2
section
variable {X : DX} {W : WX}

/-! ### what was made just now goes to the store -/
def dM (d : DE) : DE := fun sl S => (d sl S).bind fun t S1 => match t with
  | .nlst ts => .ok (.ref S1.length) (S1 ++ [.lst ts])
  | t => .ok t S1
theorem le_M {e : Expr} {d : DE} (h : LE X W e d) : LE X W e (dM d) := h.imp fun σ H Q ⟨ρ, av, sl, S, hs, he, g⟩ => ⟨ρ, av, sl, S, hs, he, by
  unfold dM at g
  cases hd : d sl S with
  | exc c fs S1 => rw [hd] at g; exact g
  | bad => rw [hd] at g; exact g
  | ok t S1 =>
    rw [hd] at g
    cases t with
    | nlst ts =>
      rintro v H1 ρ1 e1 s1 ⟨a, vs, rfl, h0, ha, n1, n2, rs⟩
      have e2 : Ext H ρ H1 (ρ1 ++ [a]) := ⟨by obtain ⟨n, q⟩ := e1.pre; exact ⟨n ++ [a], by rw [q, List.append_assoc]⟩, fun b hb => by
        rcases List.mem_append.mp hb with q | q
        · exact e1.new b q
        · rw [List.mem_singleton.mp q]; exact .inr h0, e1.keep, e1.imm, e1.dom⟩
      have rs2 : RepVs X.K X.w H1 (ρ1 ++ [a]) av vs ts := rs.push
      refine g _ H1 (ρ1 ++ [a]) e2 (RepS.push s1 n2 ⟨vs, ha, rs2⟩) (RepV.ref ?_)
      have hl : ρ1.length = _ := s1.len
      rw [← hl, List.getElem?_append_right (Nat.le_refl _)]
      simp
    | _ => exact g⟩
/-- one reading or another -/
def dOrElse (a b : DE) : DE := fun sl S => match a sl S with
  | .bad => b sl S
  | r => r
theorem le_orElse {e : Expr} {a b : DE} (ha : LE X W e a) (hb : LE X W e b) : LE X W e (dOrElse a b) := (PE.or ha hb).imp fun σ H Q ⟨ρ, av, sl, S, hs, he, g⟩ => by
  unfold dOrElse at g
  cases h : a sl S with
  | bad => rw [h] at g; exact .inr ⟨ρ, av, sl, S, hs, he, g⟩
  | ok t S1 => rw [h] at g; exact .inl ⟨ρ, av, sl, S, hs, he, by rw [h]; exact g⟩
  | exc c fs S1 => rw [h] at g; exact .inl ⟨ρ, av, sl, S, hs, he, by rw [h]; exact g⟩

/-! ### methods -/
def mTy (S : Sto) : T → Option String
  | .str _ => some "str"
  | .lst _ => some "list"
  | .flst _ => some "list"
  | .ref i => match S[i]? with
    | some (.lst _) => some "list"
    | some (.dK _) => some "dict"
    | some (.dT _) => some "dict"
    | _ => none
  | _ => none
theorem mTy_rep {K : PySem.W.Frag} {w : World} {H : Hp} {ρ av : List Addr} {S : Sto} {v : V} {t : T} {n : String} (hs : RepS K w H ρ av S) (r : RepV K w H ρ av v t) (h : mTy S t = some n) : tyV K n v H := by
  cases r with
  | str b => cases h; exact rfl
  | lst h' h1 h2 rs => cases h; exact .inl ⟨rfl, _, .inl (.inl h')⟩
  | flst h' rs => cases h; exact .inl ⟨rfl, _, h'.elim (fun ⟨o, q⟩ => .inl (.inr ⟨o, q⟩)) .inr⟩
  | @ref a i ha =>
    obtain ⟨o, ho, ro⟩ := hs.of_ref ha
    unfold mTy at h
    simp only [ho] at h
    cases o with
    | lst ts => cases h; obtain ⟨vs, h1, _⟩ := ro; exact .inl ⟨rfl, _, .inl (.inl h1)⟩
    | dK ts => cases h; obtain ⟨vs, h1, _⟩ := ro; exact .inr (.inr (.inl ⟨rfl, .inl ⟨_, h1⟩⟩))
    | dT ts => cases h; obtain ⟨vs, h1, _⟩ := ro; exact .inr (.inr (.inl ⟨rfl, .inr ⟨_, h1⟩⟩))
    | ins c fs => exact ro.elim
  | _ => cases h
def dMeth (T : String) (f : Dn.T → List Dn.T → Sto → RE) (d : DE) (da : DA) : DE := fun sl S => (d sl S).bind fun x S1 => if mTy S1 (fz x) = some T then (da sl S1).bind fun ts S2 => f (fz x) ts S2 else .bad
def OpM (X : DX) (r : V → List V → Hp → VK → Prop) (f : T → List T → Sto → RE) : Prop := ∀ (W : WX) (σ : L2.St) (H : Hp) (ρ av : List Addr) (S : Sto) (x : V) (tx : T) (vs : List V) (ts : List T) (Q : VK),
  RepS X.K X.w H ρ av S → RepV X.K X.w H ρ av x tx → RepVs X.K X.w H ρ av vs ts → GoodE X W σ H ρ av Q (f tx ts S) → r x vs H Q
theorem le_bm {T : String} {r : V → List V → Hp → VK → Prop} {f : Dn.T → List Dn.T → Sto → RE} {d : DE} {da : DA} {e : Expr} (hf : OpM X r f) (h : PE X e (tBM X.K T r (liftE X W d) (liftA X W da))) : LE X W e (dMeth T f d da) :=
  h.imp fun σ H Q ⟨ρ, av, sl, S, hs, he, g⟩ => ⟨ρ, av, sl, S, hs, he, GoodE.step g fun t S1 _ v H1 ρ1 e1 s1 r1 g1 => by
    split at g1
    · rename_i hty
      exact ⟨mTy_rep s1 r1.toV hty, ρ1, av, sl, S1, s1, he.ext e1, GoodA.step g1 fun ts S2 vs H2 ρ2 e2 s2 r2 g2 => hf W σ H2 ρ2 av S2 v _ vs ts Q s2 (r1.toV.ext e2) r2 g2⟩
    · exact g1.elim⟩
def dMeth0 (T : String) (f : Dn.T → List Dn.T → Sto → RE) (d : DE) : DE := fun sl S => (d sl S).bind fun x S1 => if mTy S1 (fz x) = some T then f (fz x) [] S1 else .bad
theorem le_bm0 {T : String} {r : V → List V → Hp → VK → Prop} {f : Dn.T → List Dn.T → Sto → RE} {d : DE} {e : Expr} (hf : OpM X r f) (h : PE X e (tBM0 X.K T r (liftE X W d))) : LE X W e (dMeth0 T f d) :=
  h.imp fun σ H Q ⟨ρ, av, sl, S, hs, he, g⟩ => ⟨ρ, av, sl, S, hs, he, GoodE.step g fun t S1 _ v H1 ρ1 e1 s1 r1 g1 => by
    split at g1
    · rename_i hty
      exact ⟨mTy_rep s1 r1.toV hty, hf W σ H1 ρ1 av S1 v _ [] [] Q s1 r1.toV .nil g1⟩
    · exact g1.elim⟩
/-- a list of the store is written -/
theorem GoodE.wrote {σ : L2.St} {H : Hp} {ρ av : List Addr} {S : Sto} {Q : VK} {t : T} {v : V} {i : Nat} {a : Addr} {us : List T} {vs : List V} (g : GoodE X W σ H ρ av Q (.ok t (S.set i (.lst us)))) (hs : RepS X.K X.w H ρ av S) (ha : ρ[i]? = some a) (ru : RepVs X.K X.w H ρ av vs us) (r : RepV X.K X.w H ρ av v t) : Q v (upd H a (.lst vs)) := by
  have e := Ext.write hs ha (.lst vs)
  have r' := r.ext e
  exact g v _ ρ e (by rw [r'.avN]; exact hs.write ha ⟨vs, upd_same, ru.ext e⟩) r'.toR
def fAppend : T → List T → Sto → RE := fun x ts S => match x, ts with
  | .ref i, [y] => (match S[i]? with
    | some (.lst us) => if us.length < sizeLine then .ok .non (S.set i (.lst (us ++ [y]))) else .bad
    | _ => .bad)
  | _, _ => .bad
theorem ref_lst {K : PySem.W.Frag} {w : World} {H : Hp} {ρ av : List Addr} {S : Sto} {v : V} {i : Nat} {us : List T} (hs : RepS K w H ρ av S) (r : RepV K w H ρ av v (.ref i)) (h : S[i]? = some (.lst us)) : ∃ a vs, v = .ref a ∧ ρ[i]? = some a ∧ H a = some (.lst vs) ∧ RepVs K w H ρ av vs us := by
  cases r with
  | @ref a _ ha =>
    obtain ⟨o, ho, ro⟩ := hs.of_ref ha
    rw [h] at ho
    cases ho
    obtain ⟨vs, h1, h2⟩ := ro
    exact ⟨a, vs, rfl, ha, h1, h2⟩
theorem om_append : OpM X rAppend fAppend := by
  intro W σ H ρ av S x tx vs ts Q hs rx rs q
  unfold fAppend at q
  split at q
  · rename_i i y
    split at q
    · rename_i us hus
      split at q
      · rename_i hl
        obtain ⟨a, zs, rfl, ha, hz, rz⟩ := ref_lst hs rx hus
        cases rs with
        | @cons vy _ _ _ r rs' =>
        cases rs'
        exact ⟨a, zs, vy, rfl, rfl, hz, by rw [rz.length]; exact hl, q.wrote hs ha (rz.append (.cons r .nil)) .non⟩
      · exact q.elim
    · exact q.elim
  · exact q.elim
def fExtend : T → List T → Sto → RE := fun x ts S => match x, ts with
  | .ref i, [y] => (match S[i]?, lstOf' S y with
    | some (.lst us), some qs => if us.length + qs.length ≤ sizeLine then .ok .non (S.set i (.lst (us ++ qs))) else .bad
    | _, _ => .bad)
  | _, _ => .bad
theorem om_extend : OpM X rExtend fExtend := by
  intro W σ H ρ av S x tx vs ts Q hs rx rs q
  unfold fExtend at q
  split at q
  · rename_i i y
    split at q
    · rename_i us qs hus hqs
      split at q
      · rename_i hl
        obtain ⟨a, zs, rfl, ha, hz, rz⟩ := ref_lst hs rx hus
        cases rs with
        | @cons vy _ _ _ r rs' =>
        cases rs'
        obtain ⟨b, ys, rfl, hb, ry⟩ := lst_rep' hs r hqs
        exact ⟨a, b, zs, ys, rfl, rfl, hz, hb, by rw [rz.length, ry.length]; exact hl, q.wrote hs ha (rz.append ry) .non⟩
      · exact q.elim
    · exact q.elim
  · exact q.elim
def fPop : T → List T → Sto → RE := fun x ts S => match x, ts with
  | .ref i, [] => (match S[i]? with
    | some (.lst us) => (match us[us.length - 1]? with
      | some t => .ok t (S.set i (.lst us.dropLast))
      | none => .bad)
    | _ => .bad)
  | _, _ => .bad
theorem RepVs.dropLast {K : PySem.W.Frag} {w : World} {H : Hp} {ρ av : List Addr} {vs : List V} {ts : List T} (r : RepVs K w H ρ av vs ts) : RepVs K w H ρ av vs.dropLast ts.dropLast := by
  rw [List.dropLast_eq_take, List.dropLast_eq_take, r.length]
  exact r.take _
theorem om_pop : OpM X rPop fPop := by
  intro W σ H ρ av S x tx vs ts Q hs rx rs q
  unfold fPop at q
  split at q
  · rename_i i
    split at q
    · rename_i us hus
      split at q
      · rename_i t ht
        obtain ⟨a, zs, rfl, ha, hz, rz⟩ := ref_lst hs rx hus
        cases rs
        obtain ⟨v, hv, r⟩ := rz.get ht
        exact ⟨a, zs, v, rfl, rfl, hz, by rw [rz.length]; exact hv, q.wrote hs ha rz.dropLast r⟩
      · exact q.elim
    · exact q.elim
  · exact q.elim
def fPopAt : T → List T → Sto → RE := fun x ts S => match x, ts with
  | .ref i, [.int j] => (match S[i]? with
    | some (.lst us) => (match seqIndex? j us.length with
      | some k => (match us[k]? with
        | some t => if -(2 ^ 63) ≤ j ∧ j < 2 ^ 63 then .ok t (S.set i (.lst (us.eraseIdx k))) else .bad
        | none => .bad)
      | none => .bad)
    | _ => .bad)
  | _, _ => .bad
theorem om_popAt : OpM X rPopAt fPopAt := by
  intro W σ H ρ av S x tx vs ts Q hs rx rs q
  unfold fPopAt at q
  split at q
  · rename_i i j
    split at q
    · rename_i us hus
      split at q
      · rename_i k hk
        split at q
        · rename_i t ht
          split at q
          · rename_i c
            obtain ⟨a, zs, rfl, ha, hz, rz⟩ := ref_lst hs rx hus
            cases rs with
            | cons r rs' =>
            cases rs'
            cases r.int_inv
            obtain ⟨v, hv, rv⟩ := rz.get ht
            exact ⟨a, zs, j, k, v, rfl, rfl, hz, c.1, c.2, by rw [rz.length]; exact hk, hv, q.wrote hs ha (rz.eraseIdx k) rv⟩
          · exact q.elim
        · exact q.elim
      · exact q.elim
    · exact q.elim
  · exact q.elim
def fInsert : T → List T → Sto → RE := fun x ts S => match x, ts with
  | .ref i, [.int j, y] => (match S[i]? with
    | some (.lst us) => if us.length < sizeLine ∧ 0 ≤ j ∧ j < 2 ^ 63 then .ok .non (S.set i (.lst (us.take j.toNat ++ [y] ++ us.drop j.toNat))) else .bad
    | _ => .bad)
  | _, _ => .bad
theorem om_insert : OpM X (fun x vs H Q => ∃ (l : Addr) (xs : List V) (i : Int) (y : V), x = .ref l ∧ vs = [.int i, y] ∧ H l = some (.lst xs) ∧ xs.length < sizeLine ∧ 0 ≤ i ∧ i < 2 ^ 63 ∧ Q .non (upd H l (.lst (xs.take i.toNat ++ [y] ++ xs.drop i.toNat)))) fInsert := by
  intro W σ H ρ av S x tx vs ts Q hs rx rs q
  unfold fInsert at q
  split at q
  · rename_i i j y
    split at q
    · rename_i us hus
      split at q
      · rename_i c
        obtain ⟨a, zs, rfl, ha, hz, rz⟩ := ref_lst hs rx hus
        cases rs with
        | cons r rs' =>
        cases rs' with
        | @cons vy _ _ _ r2 rs'' =>
        cases rs''
        cases r.int_inv
        exact ⟨a, zs, j, vy, rfl, rfl, hz, by rw [rz.length]; exact c.1, c.2.1, c.2.2, q.wrote hs ha (((rz.take _).append (.cons r2 .nil)).append (rz.drop _)) .non⟩
      · exact q.elim
    · exact q.elim
  · exact q.elim
def fIndexL : T → List T → Sto → RE := fun x ts S => match ts with
  | [y] => (match lstOf S x with
    | some us => if fit (.list (T.dats us)) && fit (dato S y) then (match (T.dats us).findIdx? fun z => PyData.eqv z (dato S y) with
        | some j => .ok (.int (j : Nat)) S
        | none => .bad) else .bad
    | none => .bad)
  | _ => .bad
theorem om_indexL : OpM X (rIndexD X.K) fIndexL := by
  intro W σ H ρ av S x tx vs ts Q hs rx rs q
  unfold fIndexL at q
  split at q
  · rename_i y
    split at q
    · rename_i us hus
      split at q
      · rename_i c
        rw [Bool.and_eq_true] at c
        split at q
        · rename_i j hj
          obtain ⟨a, zs, rfl, hq, rz⟩ := lst_rep hs rx hus
          cases rs with
          | @cons vy _ _ _ r rs' =>
          cases rs'
          have dl : DpAll X.K H zs (T.dats us) := rz.dp (by
            have := lay_of_fit c.1
            simpa [PyData.canLay0] using this)
          obtain ⟨h1, h2, h3⟩ := List.findIdx?_eq_some_iff_getElem.mp hj
          refine ⟨a, vy, dato S y, T.dats us, j, (T.dats us)[j], rfl, rfl, .lst hq dl, r.dpo hs c.2, c.1, c.2, List.getElem?_eq_getElem h1, h2, fun m z hm hz => ?_, q.now hs (.int _)⟩
          obtain ⟨l1, e1⟩ := List.getElem?_eq_some_iff.mp hz
          have := h3 m hm
          rw [e1] at this
          simpa using this
        · exact q.elim
      · exact q.elim
    · exact q.elim
  · exact q.elim
def fIndexS : T → List T → Sto → RE := fun x ts S => match x, ts with
  | .str a, [.str b] => (match Builtin.Str.occurrences a b 0 a.length 1 with
    | i :: _ => .ok (.int (i : Nat)) S
    | [] => .bad)
  | _, _ => .bad
theorem om_indexS : OpM X (fun x xs H Q => ∃ a b i rest, x = .str a ∧ xs = [.str b] ∧ Builtin.Str.occurrences a b 0 a.length 1 = i :: rest ∧ Q (.int (i : Nat)) H) fIndexS := by
  intro W σ H ρ av S x tx vs ts Q hs rx rs q
  unfold fIndexS at q
  split at q
  · split at q
    · rename_i i rest e
      cases rs with
      | cons r rs' =>
      cases rs'
      cases r.str_inv; cases rx.str_inv
      exact ⟨_, _, i, rest, rfl, rfl, e, q.now hs (.int _)⟩
    · exact q.elim
  · exact q.elim
def strsT : List T → Option (List Str)
  | [] => some []
  | .str i :: ts => (strsT ts).map (i :: ·)
  | _ => none
theorem strs_rep {K : PySem.W.Frag} {w : World} {H : Hp} {ρ av : List Addr} : ∀ {vs : List V} {ts : List T} {ns : List Str}, RepVs K w H ρ av vs ts → strsT ts = some ns → vs = ns.map V.str
  | _, _, _, .nil, h => by cases h; rfl
  | _, _, ns, .cons (t := t) (ts := ts) r rs, h => by
    unfold strsT at h
    split at h
    · rename_i e; cases e
    · rename_i i us e
      cases e
      obtain ⟨ms, e1, rfl⟩ := Option.map_eq_some_iff.mp h
      cases r.str_inv
      rw [strs_rep rs e1]; rfl
    · cases h
def fJoin : T → List T → Sto → RE := fun x ts S => match x, ts with
  | .str a, [y] => (match seqOf S y with
    | some us => (match strsT us with
      | some ys => if (ys.map (·.length)).sum + ys.length * a.length ≤ 16777216 then .ok (.str (Txt.join a ys)) S else .bad
      | none => .bad)
    | none => .bad)
  | _, _ => .bad
theorem om_join : OpM X (fun x xs H Q => ∃ a p, ∃ ys : List Str, x = .str a ∧ xs = [.ref p] ∧ (SqL X.K H p (ys.map V.str) ∨ SqT X.K H p (ys.map V.str)) ∧
    (ys.map (·.length)).sum + ys.length * a.length ≤ 16777216 ∧ Q (.str (Txt.join a ys)) H) fJoin := by
  intro W σ H ρ av S x tx vs ts Q hs rx rs q
  unfold fJoin at q
  split at q
  · rename_i a y
    split at q
    · rename_i us hus
      split at q
      · rename_i ys hys
        split at q
        · rename_i hl
          cases rs with
          | @cons vy _ _ _ r rs' =>
          cases rs'
          obtain ⟨b, zs, rfl, hq, rz⟩ := seq_rep hs r hus
          have e := strs_rep rz hys
          subst e
          cases rx.str_inv
          exact ⟨a, b, ys, rfl, rfl, hq, hl, q.now hs (.str _)⟩
        · exact q.elim
      · exact q.elim
    · exact q.elim
  · exact q.elim

variable {o e f : Expr} {es : List Expr} {pos apos cpos : Pos} {d : DE} {da : DA}
/-- the places of a method's call: all by rfl -/
structure MPl (X : DX) (o : Expr) (m : Str) (apos : Pos) (e : Expr) (es : List Expr) (cpos : Pos) : Prop where
  base : attributeBase o m X.env (eval o X.env) = eval o X.env
  few : ((backTo cpos (starEach (e :: es) X.env)).all (fun x => !x.1) && (backToKw cpos (keywordEach [] X.env)).all (fun x => x.1.isSome)
      && decide ((e :: es).length + ([] : List Keyword).length + (if ([] : List Keyword).isEmpty then 0 else 1) < 30)) = true
  line : (apos.endLine == cpos.line) = true
  star : starEach (e :: es) X.env = (false, eval e X.env) :: starEach es X.env
  plain : (backTo cpos (starEach es X.env)).any (·.1) = false
structure MPl0 (X : DX) (o : Expr) (m : Str) (apos : Pos) (cpos : Pos) : Prop where
  base : attributeBase o m X.env (eval o X.env) = eval o X.env
  line : (apos.endLine == cpos.line) = true
theorem le_append (h : LE X W o d) (ha : LA X W (e :: es) da) (m : MPl X o "append" apos e es cpos) : LE X W (.Call (.Attribute o "append" apos) (e :: es) [] cpos) (dMeth "list" fAppend d da) :=
  le_bm om_append (pe_bm PySem.F.plainAttrs_list PySem.F.slot_list_append PySem.F.type_list_append mt_append h ha m.base m.few m.line m.star m.plain)
theorem le_extend (h : LE X W o d) (ha : LA X W (e :: es) da) (m : MPl X o "extend" apos e es cpos) : LE X W (.Call (.Attribute o "extend" apos) (e :: es) [] cpos) (dMeth "list" fExtend d da) :=
  le_bm om_extend (pe_bm PySem.F.plainAttrs_list PySem.F.slot_list_extend PySem.F.type_list_extend mt_extend h ha m.base m.few m.line m.star m.plain)
theorem le_popAt (h : LE X W o d) (ha : LA X W (e :: es) da) (m : MPl X o "pop" apos e es cpos) : LE X W (.Call (.Attribute o "pop" apos) (e :: es) [] cpos) (dMeth "list" fPopAt d da) :=
  le_bm om_popAt (pe_bm PySem.F.plainAttrs_list PySem.F.slot_list_pop PySem.F.type_list_pop mt_popAt h ha m.base m.few m.line m.star m.plain)
theorem le_pop (h : LE X W o d) (m : MPl0 X o "pop" apos cpos) : LE X W (.Call (.Attribute o "pop" apos) [] [] cpos) (dMeth0 "list" fPop d) :=
  le_bm0 om_pop (pe_bm0 PySem.F.plainAttrs_list PySem.F.slot_list_pop PySem.F.type_list_pop mt_pop h m.base m.line)
theorem le_insert (h : LE X W o d) (ha : LA X W (e :: es) da) (m : MPl X o "insert" apos e es cpos) : LE X W (.Call (.Attribute o "insert" apos) (e :: es) [] cpos) (dMeth "list" fInsert d da) :=
  le_bm om_insert (pe_bm PySem.F.plainAttrs_list PySem.F.slot_list_insert PySem.F.type_list_insert mt_insert h ha m.base m.few m.line m.star m.plain)
theorem le_indexL (hu : X.A.units + 65 < cLine) (h : LE X W o d) (ha : LA X W (e :: es) da) (m : MPl X o "index" apos e es cpos) : LE X W (.Call (.Attribute o "index" apos) (e :: es) [] cpos) (dMeth "list" fIndexL d da) :=
  le_bm om_indexL (pe_bm PySem.F.plainAttrs_list PySem.F.slot_list_index PySem.F.type_list_index (mt_indexD hu) h ha m.base m.few m.line m.star m.plain)
theorem le_indexS (h : LE X W o d) (ha : LA X W (e :: es) da) (m : MPl X o "index" apos e es cpos) : LE X W (.Call (.Attribute o "index" apos) (e :: es) [] cpos) (dMeth "str" fIndexS d da) :=
  le_bm om_indexS (pe_bm PySem.F.plainAttrs_str PySem.F.slot_str_index PySem.F.type_str_index mt_sindex h ha m.base m.few m.line m.star m.plain)
theorem le_index (hu : X.A.units + 65 < cLine) (h : LE X W o d) (ha : LA X W (e :: es) da) (m : MPl X o "index" apos e es cpos) : LE X W (.Call (.Attribute o "index" apos) (e :: es) [] cpos) (dOrElse (dMeth "str" fIndexS d da) (dMeth "list" fIndexL d da)) := le_orElse (le_indexS h ha m) (le_indexL hu h ha m)
theorem le_join (h : LE X W o d) (ha : LA X W (e :: es) da) (m : MPl X o "join" apos e es cpos) : LE X W (.Call (.Attribute o "join" apos) (e :: es) [] cpos) (dMeth "str" fJoin d da) :=
  le_bm om_join (pe_bm PySem.F.plainAttrs_str PySem.F.slot_str_join PySem.F.type_str_join mt_join h ha m.base m.few m.line m.star m.plain)
end
end Dn

namespace Dn
open PySem PySem.Spec L2

/-! ### dict displays -/
def putT {κ : Type} [DecidableEq κ] (kvs : List (κ × T)) (k : κ) (t : T) : List (κ × T) := if (kvs.any fun kv => decide (kv.1 = k)) = true then kvs.map (fun kv => if kv.1 = k then (kv.1, t) else kv) else kvs ++ [(k, t)]
def mergeT (kvs more : List (Key × T)) : List (Key × T) := more.foldl (fun acc kv => putT acc kv.1 kv.2) kvs
section
variable {K : PySem.W.Frag} {w : World} {H H' : Hp} {ρ av : List Addr}
theorem RepKd.merge : ∀ {more : List (Key × V)} {moreT : List (Key × T)} {kvs : List (Key × V)} {ts : List (Key × T)}, RepKd K w H ρ av more moreT → RepKd K w H ρ av kvs ts → RepKd K w H ρ av (mergeK kvs more) (mergeT ts moreT)
  | _, _, _, _, .nil, s => s
  | p :: _, q :: _, kvs, ts, .cons r rs, s => by
    have h1 : p.1 = q.1 := r.1
    show RepKd K w H ρ av (mergeK (putK kvs p.1 p.2) _) (mergeT (putT ts q.1 q.2) _)
    refine RepKd.merge rs ?_
    rw [h1]
    exact RepKd.put r.2 s
theorem RepKd.ks : ∀ {vs : List (Key × V)} {ts : List (Key × T)}, RepKd K w H ρ av vs ts → RepKs K w H ρ av vs ts
  | _, _, .nil => .nil
  | (k, v) :: _, (k', t) :: _, .cons r rs => by
    have h1 : k = k' := r.1
    subst h1
    exact .cons r.2 (RepKd.ks rs)
/-- what avoids p stays when p is written -/
theorem Ext.dodge {p : Addr} {u o : HO} (hp : H p = some u) (ni : ¬ Imm u) : Ext H (ρ ++ [p]) (upd H p o) (ρ ++ [p]) :=
  ⟨⟨[], by simp⟩, fun _ h => .inl h, fun b v hb hv => by rw [upd_ne (fun z => hb (by rw [z]; simp))]; exact hv, fun b v hi hv => by
    rw [upd_ne (fun z => by rw [z, hp] at hv; cases hv; exact ni hi)]; exact hv, fun b hb => by
    by_cases z : b = p
    · rw [z, upd_same] at hb; cases hb
    · rw [upd_ne z] at hb; exact hb⟩
theorem RepV.dodge {p : Addr} {u o : HO} (hp : H p = some u) (ni : ¬ Imm u) {v : V} {t : T} (r : RepV K w H ρ (p :: av) v t) : RepV K w (L2.upd H p o) ρ (p :: av) v t :=
  RepV.cut (new := [p]) (as := [p]) (fun _ h => h) (r.push.ext (Ext.dodge hp ni)) r.lt
theorem RepVs.dodge {p : Addr} {u o : HO} (hp : H p = some u) (ni : ¬ Imm u) {v : List V} {t : List T} (r : RepVs K w H ρ (p :: av) v t) : RepVs K w (L2.upd H p o) ρ (p :: av) v t :=
  RepVs.cut (new := [p]) (as := [p]) (fun _ h => h) (r.push.ext (Ext.dodge hp ni)) r.lt
theorem RepKd.dodge {κ : Type} {p : Addr} {u o : HO} (hp : H p = some u) (ni : ¬ Imm u) {vs : List (κ × V)} {ts : List (κ × T)} (r : RepKd K w H ρ (p :: av) vs ts) : RepKd K w (L2.upd H p o) ρ (p :: av) vs ts := Paired.mono (fun _ _ h => ⟨h.1, h.2.dodge hp ni⟩) r
theorem RepKd.less {κ : Type} {av' : List Addr} (s : ∀ a ∈ av', a ∈ av) {vs : List (κ × V)} {ts : List (κ × T)} (r : RepKd K w H ρ av vs ts) : RepKd K w H ρ av' vs ts := Paired.mono (fun _ _ h => ⟨h.1, h.2.less s⟩) r
theorem RepS.dodge {p : Addr} {u o : HO} {S : Sto} (hp : H p = some u) (ni : ¬ Imm u) (s : RepS K w H ρ (p :: av) S) : RepS K w (L2.upd H p o) ρ (p :: av) S := by
  have np : p ∉ ρ := (s.out p List.mem_cons_self).2
  refine ⟨s.len, s.nd, fun i a ob h1 h2 => ?_, fun a ha => ⟨fun z => ?_, (s.out a ha).2⟩⟩
  · have ne : a ≠ p := fun z => np (by rw [← z]; exact List.mem_of_getElem? h1)
    have ro := s.obj i a ob h1 h2
    cases ob with
    | lst ts => obtain ⟨vs, q1, q2⟩ := ro; exact ⟨vs, by rw [upd_ne ne]; exact q1, q2.dodge hp ni⟩
    | dK ts => obtain ⟨vs, q1, q2⟩ := ro; exact ⟨vs, by rw [upd_ne ne]; exact q1, q2.dodge hp ni⟩
    | dT ts => obtain ⟨vs, q1, q2⟩ := ro; exact ⟨vs, by rw [upd_ne ne]; exact q1, q2.dodge hp ni⟩
    | ins c fs => exact ro.elim
  · by_cases e : a = p
    · rw [e, upd_same] at z; cases z
    · rw [upd_ne e] at z; exact (s.out a ha).1 z
end
section
variable {X : DX} {W : WX}
inductive RP where
  | ok (kvs : List (Key × T)) (S : Sto) | exc (c : Str) (fs : Flds) (S : Sto) | bad
def dPairs : List (DE × DE) → Sl → Sto → RP
  | [], _, S => .ok [] S
  | (dk, dv) :: r, sl, S => match dk sl S with
    | .ok k S1 => (match dv sl S1 with
      | .ok v S2 => (match dPairs r sl S2 with
        | .ok kvs S3 => (match keyT (fz k) with
          | some q => .ok ((q, fz v) :: kvs) S3
          | none => .bad)
        | r => r)
      | .exc c fs S2 => .exc c fs S2
      | .bad => .bad)
    | .exc c fs S1 => .exc c fs S1
    | .bad => .bad
def GoodP (X : DX) (W : WX) (σ : L2.St) (H : Hp) (ρ av : List Addr) (Q : List (V × V) → Hp → Prop) : RP → Prop
  | .ok kvs S' => ∀ vs H' ρ', Ext H ρ H' ρ' → RepS X.K X.w H' ρ' av S' → RepKd X.K X.w H' ρ' av vs kvs → Q (vs.map fun kv => (kV kv.1, kv.2)) H'
  | .exc c fs S' => ∀ cls dd H' ρ', Ext H ρ H' ρ' → RepS X.K X.w H' ρ' av S' → RepX X.K X.w H' ρ' av X.mg cls dd c fs → W cls dd σ H'
  | .bad => False
abbrev trsOf (X : DX) (W : WX) (ds : List (DE × DE)) : List (TE × TE) := ds.map fun p => (liftE X W p.1, liftE X W p.2)
theorem pairs_run {σ : L2.St} : ∀ (ds : List (DE × DE)) (H : Hp) (ρ av : List Addr) (sl : Sl) (S : Sto) (Q : List (V × V) → Hp → Prop), RepS X.K X.w H ρ av S → RepE X.K X.w X.pin H ρ av σ sl → GoodP X W σ H ρ av Q (dPairs ds sl S) → tPairs (trsOf X W ds) σ H Q
  | [], H, ρ, av, sl, S, Q, hs, he, g => g [] H ρ (Ext.refl _ _) hs .nil
  | (dk, dv) :: r, H, ρ, av, sl, S, Q, hs, he, g => by
    refine ⟨ρ, av, sl, S, hs, he, ?_⟩
    unfold dPairs at g
    show GoodE X W σ H ρ av _ (dk sl S)
    cases hk : dk sl S with
    | exc c fs S1 => simp only [hk] at g; exact g
    | bad => simp only [hk] at g; exact g
    | ok k S1 =>
      simp only [hk] at g
      intro vk H1 ρ1 e1 s1 r1
      have s1 := s1.ofN
      refine ⟨ρ1, av, sl, S1, s1, he.ext e1, ?_⟩
      show GoodE X W σ H1 ρ1 av _ (dv sl S1)
      cases hv : dv sl S1 with
      | exc c fs S2 => simp only [hv] at g; exact fun cls dd H' ρ' e s x => g cls dd H' ρ' (e1.trans e) s x
      | bad => simp only [hv] at g; exact g
      | ok v S2 =>
        simp only [hv] at g
        intro vv H2 ρ2 e2 s2 r2
        have s2 := s2.ofN
        refine pairs_run r H2 ρ2 av sl S2 _ s2 ((he.ext e1).ext e2) ?_
        cases hr : dPairs r sl S2 with
        | exc c fs S3 => simp only [hr] at g; exact fun cls dd H' ρ' e s x => g cls dd H' ρ' ((e1.trans e2).trans e) s x
        | bad => simp only [hr] at g; exact g
        | ok kvs S3 =>
          simp only [hr] at g
          cases hq : keyT (fz k) with
          | none => simp only [hq] at g; exact g.elim
          | some q =>
            simp only [hq] at g
            intro vs H3 ρ3 e3 s3 r3
            have ek : vk = kV q := keyT_rep r1.toV hq
            have := g ((q, vv) :: vs) H3 ρ3 ((e1.trans e2).trans e3) s3 (.cons ⟨rfl, r2.toV.ext e3⟩ r3)
            rw [List.map_cons] at this
            rw [ek]
            exact this
def RP.bind (r : RP) (f : List (Key × T) → Sto → RE) : RE := match r with
  | .ok kvs S => f kvs S
  | .exc c fs S => .exc c fs S
  | .bad => .bad
/-- {k: v, ..}, nobody changes it -/
def dDisp (ds : List (DE × DE)) : DE := fun sl S => (dPairs ds sl S).bind fun kvs S1 => if kvs.length ≤ 15 then .ok (.dic (mergeT [] kvs)) S1 else .bad
/-- .., put into the store -/
def dDispM (ds : List (DE × DE)) : DE := fun sl S => (dPairs ds sl S).bind fun kvs S1 => if kvs.length ≤ 15 then RE.ok (T.ref S1.length) (S1 ++ [MO.dK (mergeT [] kvs)]) else .bad
abbrev LPs (X : DX) (W : WX) (pos : Pos) (keys : List (Option Expr)) (values : List Expr) (ds : List (DE × DE)) : Prop := PPs X pos keys values (trsOf X W ds)
theorem lps_nil {pos : Pos} : LPs X W pos [] [] [] := pps_nil
theorem lps_cons {pos : Pos} {k v : Expr} {ks : List (Option Expr)} {vs : List Expr} {dk dv : DE} {ds : List (DE × DE)} (hk : LE X W k dk) (hv : LE X W v dv) (hr : LPs X W pos ks vs ds) : LPs X W pos (some k :: ks) (v :: vs) ((dk, dv) :: ds) := pps_cons hk hv hr
theorem laid_dict {K : PySem.W.Frag} {w : World} {H : Hp} {ρ av : List Addr} {S : Sto} (hs : RepS K w H ρ av S) {p : Addr} (hp : H p = none) : Ext H ρ (upd H p (.dK [])) ρ ∧ RepS K w (upd H p (.dK [])) ρ (p :: av) S := ⟨Ext.laid hs hp _, hs.laidN hp _⟩
theorem Ext.over {H H2 : Hp} {ρ ρ2 : List Addr} {p : Addr} {u o : HO} (hp : H p = none) (e : Ext H ρ H2 ρ2) (h2 : H2 p = some u) : Ext H ρ (upd H2 p o) ρ2 :=
  ⟨e.pre, e.new, fun a v ha hv => by rw [upd_ne (fun z => by rw [z, hp] at hv; cases hv)]; exact e.keep a v ha hv, fun a v hi hv => by rw [upd_ne (fun z => by rw [z, hp] at hv; cases hv)]; exact e.imm a v hi hv, fun a ha => by
    by_cases z : a = p
    · rw [z]; exact hp
    · rw [upd_ne z] at ha; exact e.dom a ha⟩
theorem disp_core {σ : L2.St} {H : Hp} {ρ av : List Addr} {sl : Sl} {S : Sto} {ds : List (DE × DE)} {Q : VK} {f : List (Key × T) → Sto → RE} (hs : RepS X.K X.w H ρ av S) (he : RepE X.K X.w X.pin H ρ av σ sl) (g : GoodE X W σ H ρ av Q ((dPairs ds sl S).bind fun kvs S1 => if kvs.length ≤ 15 then f kvs S1 else .bad))
    (h : ∀ kvs S1 (vs : List (Key × V)) H2 ρ2 p, H p = none → Ext H ρ H2 ρ2 → H2 p = some (.dK []) → RepS X.K X.w (upd H2 p (.dK (mergeK [] vs))) ρ2 (p :: av) S1 → RepKd X.K X.w (upd H2 p (.dK (mergeK [] vs))) ρ2 (p :: av) (mergeK [] vs) (mergeT [] kvs) → p ∉ av → p ∉ ρ2 →
      GoodE X W σ H ρ av Q (f kvs S1) → Q (.ref p) (upd H2 p (.dK (mergeK [] vs)))) : tDisp (trsOf X W ds) σ H Q := by
  intro p hp
  obtain ⟨e0, s0⟩ := laid_dict hs hp
  have np := notin_new hs hp
  have he0 : RepE X.K X.w X.pin (upd H p (.dK [])) ρ (p :: av) σ sl := he.to (fun q2 => (q2.more hp).ext e0) fun d vs z1 z2 z3 => ⟨e0.keep _ _ z2 z1, z2, fun z => (List.mem_cons.mp z).elim (fun z => by rw [z, hp] at z1; cases z1) z3⟩
  refine pairs_run ds _ ρ (p :: av) sl S _ s0 he0 ?_
  cases hd : dPairs ds sl S with
  | exc c fs S1 =>
    rw [hd] at g
    intro cls dd H' ρ' e s x
    obtain ⟨C, x1, x2, d, vs, x3, x4, x5, x6, x7⟩ := x
    exact g cls dd H' ρ' (e0.trans e) (s.less fun _ z => List.mem_cons_of_mem _ z) ⟨C, x1, x2, d, vs, x3, x4, x5, fun z => x6 (List.mem_cons_of_mem _ z), Paired.mono (fun _ _ h => ⟨h.1, h.2.less fun _ z => List.mem_cons_of_mem _ z⟩) x7⟩
  | bad => rw [hd] at g; exact g
  | ok kvs S1 =>
    rw [hd] at g
    intro vs H2 ρ2 e2 s2 r2
    have h2p : H2 p = some (.dK []) := e2.keep p _ (fun z => by obtain ⟨u, hu, _⟩ := hs.there z; rw [hp] at hu; cases hu) upd_same
    have ni : ¬ Imm (.dK []) := fun z => z
    simp only [RP.bind] at g
    split at g
    · rename_i hl
      refine ⟨h2p, vs, rfl, by rw [Paired.length r2]; exact hl, ?_⟩
      exact h kvs S1 vs H2 ρ2 p hp (e0.trans e2) h2p (s2.dodge h2p ni) (RepKd.merge (r2.dodge h2p ni) .nil) np.2 (s2.out p List.mem_cons_self).2 g
    · exact g.elim
theorem le_disp {pos : Pos} {keys : List (Option Expr)} {values : List Expr} {ds : List (DE × DE)} (h : LPs X W pos keys values ds) (hall : keys.all (·.isSome) = true) (hl : keys.length = values.length) (h0 : keys ≠ []) (h15 : keys.length ≤ 15) : LE X W (.Dict keys values pos) (dDisp ds) :=
  (pe_disp h hall hl h0 h15).imp fun σ H Q ⟨ρ, av, sl, S, hs, he, g⟩ => disp_core (f := fun kvs S1 => RE.ok (T.dic (mergeT [] kvs)) S1) hs he g fun kvs S1 vs H2 ρ2 p hp e h2 s r na nr g =>
    g (.ref p) _ ρ2 (Ext.over hp e h2) (s.less fun _ z => List.mem_cons_of_mem _ z) (RepV.dic (.inl upd_same) nr na (r.less fun _ z => List.mem_cons_of_mem _ z).ks)
theorem push_len {ρ : List Addr} {S : Sto} {p : Addr} (h : ρ.length = S.length) : (ρ ++ [p])[S.length]? = some p := by
  rw [← h, List.getElem?_append_right (Nat.le_refl _)]; simp
theorem RepKd.push {κ : Type} {K : PySem.W.Frag} {w : World} {H : Hp} {ρ av : List Addr} {p : Addr} {vs : List (κ × V)} {ts : List (κ × T)} (r : RepKd K w H ρ (p :: av) vs ts) : RepKd K w H (ρ ++ [p]) av vs ts := Paired.mono (fun _ _ h => ⟨h.1, h.2.push⟩) r
theorem Ext.pushed {H H2 : Hp} {ρ ρ2 : List Addr} {p : Addr} (hp : H p = none) (e : Ext H ρ H2 ρ2) : Ext H ρ H2 (ρ2 ++ [p]) :=
  ⟨by obtain ⟨n, q⟩ := e.pre; exact ⟨n ++ [p], by rw [q, List.append_assoc]⟩, fun b hb => by
    rcases List.mem_append.mp hb with q | q
    · exact e.new b q
    · rw [List.mem_singleton.mp q]; exact .inr hp, e.keep, e.imm, e.dom⟩
theorem le_dispM {pos : Pos} {keys : List (Option Expr)} {values : List Expr} {ds : List (DE × DE)} (h : LPs X W pos keys values ds) (hall : keys.all (·.isSome) = true) (hl : keys.length = values.length) (h0 : keys ≠ []) (h15 : keys.length ≤ 15) : LE X W (.Dict keys values pos) (dDispM ds) :=
  (pe_disp h hall hl h0 h15).imp fun σ H Q ⟨ρ, av, sl, S, hs, he, g⟩ => disp_core (f := fun kvs S1 => RE.ok (T.ref S1.length) (S1 ++ [MO.dK (mergeT [] kvs)])) hs he g fun kvs S1 vs H2 ρ2 p hp e h2 s r na nr g =>
    g (.ref p) _ (ρ2 ++ [p]) ((Ext.over hp e h2).pushed hp) (RepS.push s na ⟨_, upd_same, r.push⟩) (RepV.ref (push_len s.len))
def dNewK : DE := fun _ S => .ok (.ref S.length) (S ++ [.dK []])
def dNewT : DE := fun _ S => .ok (.ref S.length) (S ++ [.dT []])
theorem le_newK {pos : Pos} : LE X W (.Dict [] [] pos) dNewK := pe_dnewK.imp fun σ H Q ⟨ρ, av, sl, S, hs, he, g⟩ p hp =>
  g (.ref p) _ (ρ ++ [p]) ((Ext.laid hs hp _).pushed hp) (RepS.push (hs.laidN hp _) (notin_new hs hp).2 ⟨[], upd_same, .nil⟩) (RepV.ref (push_len hs.len))
theorem le_newT {pos : Pos} : LE X W (.Dict [] [] pos) dNewT := pe_dnewT.imp fun σ H Q ⟨ρ, av, sl, S, hs, he, g⟩ p hp =>
  g (.ref p) _ (ρ ++ [p]) ((Ext.laid hs hp _).pushed hp) (RepS.push (hs.laidN hp _) (notin_new hs hp).2 ⟨[], upd_same, .nil⟩) (RepV.ref (push_len hs.len))

/-! ### d.get(k, x) -/
def IsDL (K : PySem.W.Frag) (w : World) (H : Hp) (a : Addr) : Prop := IsD H a ∨ ∃ es n, KDict K w a es n
theorem isDL_at {pins : List (Addr × Obj)} {σ : L2.St} {H : Hp} {s : Shared} {a : Addr} (I : Inv X pins σ H s) (d : IsDL X.K X.w H a) : s.TypeIs (.ref a) "dict" ∧ (∀ b, Value.ref a = .ref b → ∃ ob, s.heap.get? b = some ob ∧ ob.dict = none) := by
  rcases d with d | ⟨es, n, D⟩
  · obtain ⟨t1, t2, _⟩ := isD_at I d
    exact ⟨t1, t2⟩
  · exact ⟨kd_type D I, fun b e => by cases e; exact ⟨_, I.kIn _ _ D.at_, rfl⟩⟩
theorem l_get2 {pins : List (Addr × Obj)} {σ : L2.St} {H : Hp} {s : Shared} {a : Addr} {y d : V} {o : Option V} {u r : Value} {A : Around} {E : Value → Shared → Prop} {Q : Value → Shared → Prop} (hu : A.units + 1 < cLine) (I : Inv X pins σ H s) (g : DLook X.K X.w H a y o) (ry : RelV y u) (rd : RelV d r)
    (h : ∀ w' s', Inv X pins σ H s' → RelV (o.getD d) w' → Q w' s') : wpAny (model X.prog X.w) A (call (.builtin "dict.get") [.ref a, u, r]) Q E s := by
  cases g with
  | got g => exact d_get2 hu I g ry rd h
  | kd D e h1 r1 =>
    subst e
    obtain ⟨t, rfl⟩ := ry
    have mo := PySem.W.mapOf_K (prog := X.prog) I.kIn D.at_ D.lit
    refine call_meetsIn PySem.F.slot_dict_get mo.typeIs PySem.F.entry_dict_get (PySem.F.args_dict_get_3 _ _ _) (meets_dict_get_default (PySem.strKind X.prog X.w) a (PySem.strKind_is X.prog X.w _ t) D.low r) ⟨_, mo, h _ _ (I.tok _) ?_⟩
    simp only [PySem.W.find_K D.at_ h1]
    exact r1
  | kn D e h1 =>
    subst e
    obtain ⟨t, rfl⟩ := ry
    have mo := PySem.W.mapOf_K (prog := X.prog) I.kIn D.at_ D.lit
    refine call_meetsIn PySem.F.slot_dict_get mo.typeIs PySem.F.entry_dict_get (PySem.F.args_dict_get_3 _ _ _) (meets_dict_get_default (PySem.strKind X.prog X.w) a (PySem.strKind_is X.prog X.w _ t) D.low r) ⟨_, mo, h _ _ (I.tok _) ?_⟩
    simp only [PySem.W.find_K D.at_ h1]
    exact rd
def tLGet2 (K : PySem.W.Frag) (w : World) (td ty tx : TE) : TE := fun σ H Q => td σ H fun x H1 => ∃ a, x = .ref a ∧ IsDL K w H1 a ∧ ty σ H1 fun y H2 => tx σ H2 fun z H3 => ∃ o, DLook K w H3 a y o ∧ Q (o.getD z) H3
theorem pe_lget2 {o e f : Expr} {apos cpos : Pos} {td ty tx : TE} (hu : X.A.units + 1 < cLine) (ho : PE X o td) (he : PE X e ty) (hf : PE X f tx) (m : M2 X o "get" apos e f cpos) : PE X (.Call (.Attribute o "get" apos) [e, f] [] cpos) (tLGet2 X.K X.w td ty tx) := by
  refine ⟨fun pins s σ H Q I h => ?_⟩
  refine wpAny_Call_method m.base m.few m.line PySem.F.plainAttrs_dict PySem.F.slot_dict_get PySem.F.type_dict_get (thn (ho.run pins s σ H _ I h) fun u s1 ⟨x, H1, I1, rx, a, ex, d, q1⟩ => ?_)
  subst ex
  obtain rfl : u = Value.ref a := rx
  obtain ⟨t1, t2⟩ := isDL_at I1 d
  refine ⟨t1, t2, ?_⟩
  rw [m.trees]
  refine Calls.callWith_builtin rfl (Calls.evalArgs_plain (Calls.spliced_cons (thn (he.run pins s1 σ H1 _ I1 q1) fun iv s2 ⟨y, H2, I2, ry, q2⟩ =>
    Calls.spliced_cons (thn (hf.run pins s2 σ H2 _ I2 q2) fun fv s3 ⟨z, H3, I3, rz, ov, g, q3⟩ => Calls.spliced_nil ?_))))
  exact l_get2 hu I3 g ry rz fun w' s4 I4 rw' => ⟨_, H3, I4, rw', q3⟩
def isDT (S : Sto) : T → Bool
  | .dic _ => true
  | .ref i => match S[i]? with
    | some (.dK _) => true
    | some (.dT _) => true
    | _ => false
  | _ => false
theorem isDT_rep {K : PySem.W.Frag} {w : World} {H : Hp} {ρ av : List Addr} {S : Sto} {v : V} {t : T} (hs : RepS K w H ρ av S) (r : RepV K w H ρ av v t) (h : isDT S t = true) : ∃ a, v = .ref a ∧ IsDL K w H a := by
  cases r with
  | dic h' _ _ _ => exact ⟨_, rfl, .inl (.inl ⟨_, h'⟩)⟩
  | dicK h' _ _ => obtain ⟨es, n, D, _⟩ := h'; exact ⟨_, rfl, .inr ⟨es, n, D⟩⟩
  | @ref a i ha =>
    obtain ⟨o, ho, ro⟩ := hs.of_ref ha
    simp only [isDT, ho] at h
    cases o with
    | dK ts => obtain ⟨vs, h1, _⟩ := ro; exact ⟨_, rfl, .inl (.inl ⟨_, .inl h1⟩)⟩
    | dT ts => obtain ⟨vs, h1, _⟩ := ro; exact ⟨_, rfl, .inl (.inr ⟨_, .inl h1⟩)⟩
    | _ => cases h
  | _ => cases h
/-- o.get(e, f) -/
def dGet2 (d de df : DE) : DE := fun sl S => (d sl S).bind fun x S1 => if isDT S1 (fz x) then (de sl S1).bind fun k S2 => (df sl S2).bind fun z S3 => match dget S3 (fz x) (fz k) with
  | some (some t) => .ok t S3
  | some none => .ok (fz z) S3
  | none => .bad else .bad
theorem le_get2 {o e f : Expr} {apos cpos : Pos} {d de df : DE} (hu : X.A.units + 65 < cLine) (ho : LE X W o d) (he : LE X W e de) (hf : LE X W f df) (m : M2 X o "get" apos e f cpos) : LE X W (.Call (.Attribute o "get" apos) [e, f] [] cpos) (dGet2 d de df) :=
  (pe_lget2 (hu1 hu) ho he hf m).imp fun σ H Q ⟨ρ, av, sl, S, hs, hE, g⟩ => ⟨ρ, av, sl, S, hs, hE, GoodE.step g fun t S1 _ v H1 ρ1 e1 s1 r1 g1 => by
    split at g1
    · rename_i hD
      obtain ⟨a, rfl, hd⟩ := isDT_rep s1 r1.toV hD
      refine ⟨a, rfl, hd, ρ1, av, sl, S1, s1, hE.ext e1, GoodE.step g1 fun k S2 _ vk H2 ρ2 e2 s2 r2 g2 => ⟨ρ2, av, sl, S2, s2, (hE.ext e1).ext e2, GoodE.step g2 fun z S3 _ vz H3 ρ3 e3 s3 r3 g3 => ?_⟩⟩
      cases hg : dget S3 (fz t) (fz k) with
      | none => simp only [hg] at g3; exact g3.elim
      | some oo =>
        obtain ⟨a', ov, ea, gl, k1, k2⟩ := dget_rep s3 ((r1.toV.ext e2).ext e3) (r2.toV.ext e3) hg
        cases ea
        cases oo with
        | none =>
          simp only [hg] at g3
          rw [k2 rfl] at gl
          exact ⟨none, gl, g3.now s3 r3.toV⟩
        | some t' =>
          simp only [hg] at g3
          obtain ⟨v', q1, q2⟩ := k1 t' rfl
          rw [q1] at gl
          exact ⟨some v', gl, g3.now s3 q2⟩
    · exact g1.elim⟩

/-! ### calls with keywords -/
def permL {α : Type} (perm : List Nat) (xs : List α) : List α := perm.filterMap fun i => xs[i]?
theorem permL_rel {R : V → Value → Prop} {xs : List V} {us : List Value} (r : Paired R xs us) : ∀ perm : List Nat, Paired R (permL perm xs) (permL perm us)
  | [] => .nil
  | i :: p => by
    have ih := permL_rel r p
    have at_ : ∀ {xs : List V} {us : List Value}, Paired R xs us → ∀ i : Nat, (xs[i]? = none ∧ us[i]? = none) ∨ ∃ x u, xs[i]? = some x ∧ us[i]? = some u ∧ R x u := by
      intro xs us r
      induction r with
      | nil => intro i; exact .inl ⟨by simp, by simp⟩
      | cons h t ih =>
        intro i
        cases i with
        | zero => exact .inr ⟨_, _, rfl, rfl, h⟩
        | succ i => simpa using ih i
    unfold permL
    rw [List.filterMap_cons, List.filterMap_cons]
    rcases at_ r i with ⟨h1, h2⟩ | ⟨x, u, h1, h2, h3⟩
    · rw [h1, h2]; exact ih
    · rw [h1, h2]; exact .cons h3 ih
theorem permL_vs {K : PySem.W.Frag} {w : World} {H : Hp} {ρ av : List Addr} {xs : List V} {us : List T} (r : RepVs K w H ρ av xs us) : ∀ perm : List Nat, RepVs K w H ρ av (permL perm xs) (permL perm us)
  | [] => .nil
  | i :: p => by
    have ih := permL_vs r p
    unfold permL
    rw [List.filterMap_cons, List.filterMap_cons]
    cases h : us[i]? with
    | none =>
      have : xs[i]? = none := by
        rw [List.getElem?_eq_none_iff] at h ⊢
        rw [r.length]; exact h
      rw [this]; exact ih
    | some t =>
      obtain ⟨v, h1, h2⟩ := r.get h
      rw [h1]; exact .cons h2 ih
theorem kbn_of {K : PySem.W.Frag} {x qual : Str} {params : Arguments} {body : List Stmt} {scope : Scope} {kws : List (Str × V)} {f : Addr} {fd : FuncData} {ps ks : List Str} {n : Nat} {perm : List Nat} (F : FunD K x qual params body scope [] kws f fd)
    (h : ∀ (kV doc pm : Value) (an : Option Addr) (cdv ct : Value) (us ws : List Value), us.length = n → ws.length = ks.length → bindArgs (PySem.W.fnOf x qual params body scope .none kV doc pm an cdv ct) ⟨us, ks.zip ws⟩ = pure (ps.zip (permL perm (us ++ ws)))) :
    KBn K fd ps n ks (fun us ws => permL perm (us ++ ws)) (fun us ws => permL perm (us ++ ws)) := by
  obtain ⟨oc, od, dV, kV, doc, pm, an, cdv, ct, osl, rfl, lk, hcd, hD, hK⟩ := F.ex
  rcases hD with ⟨_, rfl⟩ | ⟨e, _⟩
  · exact ⟨fun s us ws _ l1 l2 => .of_eq (h kV doc pm an cdv ct us ws l1 l2), fun r1 r2 => permL_rel (Vals.append r1 r2) perm⟩
  · exact absurd rfl e
theorem run_fnNS {CX : CXT} {k n : Nat} {f : Addr} {fd : FuncData} {ps ks : List Str} {sp : Sp} {E : L2.St → XK} {pins : List (Addr × Obj)} {σ : L2.St} {H : Hp} {s : Shared} {Q : VK} {us ws : List Value} {vs zs : List V} {g : List Value → List Value → List Value} {gV : List V → List V → List V} (F : FnOk X.prog X.w X.K X.mg X.base CX k f fd ps sp) (hr : Room k X.A) (hb : KBn X.K fd ps n ks g gV) (hx : PassesAt CX X σ (E σ))
    (I : Inv X pins σ H s) (r : Vals vs us) (rz : Vals zs ws) (l1 : vs.length = n) (l2 : zs.length = ks.length) (h : sp (gV vs zs) H Q (E σ)) : wpAny (model X.prog X.w) X.A (call (.ref f) us (ks.zip ws)) (EP X pins σ Q) X.xe s := by
  have r2 := hb.rel r rz
  refine wpAny_call (codeAny_mono (F.run X.A X.stack s H ⟨us, ks.zip ws⟩ (g us ws) (gV vs zs) Q (E σ) hr I.env0 (hb.to s us ws I.kIn (r.length.symm.trans l1) (rz.length.symm.trans l2)) r2 h) fun r s' hq => ?_)
  cases r with
  | error e => exact hx pins H s e s' I hq
  | ok fl =>
    cases fl with
    | ret u => exact I.after hq
    | next => exact False.elim hq
    | brk => exact False.elim hq
    | cont => exact False.elim hq
def tCallKS (n m : Nat) (sp : Sp) (gV : List V → List V → List V) (E : L2.St → XK) (t tk : TA) : TE := fun σ H Q => t σ H fun vs H1 => tk σ H1 fun zs H2 => vs.length = n ∧ zs.length = m ∧ sp (gV vs zs) H2 Q (E σ)
theorem pe_callKS {CX : CXT} {k n : Nat} {f : Addr} {fd : FuncData} {ps ks : List Str} {sp : Sp} {E : L2.St → XK} {x : Str} {p pos : Pos} {e : Expr} {es : List Expr} {kws : List Keyword} {t tk : TA} {g : List Value → List Value → List Value} {gV : List V → List V → List V}
    (F : FnOk X.prog X.w X.K X.mg X.base CX k f fd ps sp) (hr : Room k X.A) (hg : Gl X x) (hm : X.mg x = some (.ref f)) (hk : PySem.W.keepIn X.K (.ref f) = true) (hb : KBn X.K fd ps n ks g gV) (hx : ∀ σ, PassesAt CX X σ (E σ))
    (ha : PA X (e :: es) t) (hkw : PK X kws tk) (hall : (backToKw pos (keywordEach kws X.env)).all (·.1.isSome) = true := by rfl) (hks : (backToKw pos (keywordEach kws X.env)).filterMap (·.1) = ks := by rfl)
    (hdb : (x == ("__debug__" : Str)) = false := by decide) (he : starEach (e :: es) X.env = (false, eval e X.env) :: starEach es X.env := by rfl)
    (hpl : ((backTo pos (starEach (e :: es) X.env)).any (·.1) || (backToKw pos (keywordEach kws X.env)).any (·.1.isNone)) = false := by rfl) :
    PE X (.Call (.Name x p) (e :: es) kws pos) (tCallKS n ks.length sp gV E t tk) := by
  refine ⟨fun pins s σ H Q I h => ?_⟩
  refine wpAny_Call_Name_kw (ld_glob I hg hm ?_ hdb)
  refine PySem.W.callWith_KW (h₀ := X.base) I.ok.mod.kin hk hall (thn (ha.run pos pins s σ H _ I h) fun us s1 ⟨vs, H1, I1, r, q⟩ => ?_) hpl he
  refine thn (hkw.run pos pins s1 σ H1 _ I1 q) fun ws s2 ⟨zs, H2, I2, rz, l1, l2, q2⟩ => ⟨I2.kIn, ?_⟩
  rw [hks]
  exact run_fnNS F hr hb (hx σ) I2 r rz l1 l2 q2
theorem pe_callKS0 {CX : CXT} {k : Nat} {f : Addr} {fd : FuncData} {ps ks : List Str} {sp : Sp} {E : L2.St → XK} {x : Str} {p pos : Pos} {kws : List Keyword} {tk : TA} {g : List Value → List Value → List Value} {gV : List V → List V → List V}
    (F : FnOk X.prog X.w X.K X.mg X.base CX k f fd ps sp) (hr : Room k X.A) (hg : Gl X x) (hm : X.mg x = some (.ref f)) (hk : PySem.W.keepIn X.K (.ref f) = true) (hb : KBn X.K fd ps 0 ks g gV) (hx : ∀ σ, PassesAt CX X σ (E σ))
    (hkw : PK X kws tk) (hall : (backToKw pos (keywordEach kws X.env)).all (·.1.isSome) = true := by rfl) (hks : (backToKw pos (keywordEach kws X.env)).filterMap (·.1) = ks := by rfl)
    (hdb : (x == ("__debug__" : Str)) = false := by decide)
    (hpl : ((backTo pos (starEach [] X.env)).any (·.1) || (backToKw pos (keywordEach kws X.env)).any (·.1.isNone)) = false := by rfl) :
    PE X (.Call (.Name x p) [] kws pos) (tCallKS 0 ks.length sp gV E tNil tk) := by
  refine ⟨fun pins s σ H Q I h => ?_⟩
  refine wpAny_Call_Name_kw (ld_glob I hg hm ?_ hdb)
  refine PySem.W.callWith_KW0 (h₀ := X.base) I.ok.mod.kin hk hall ?_ hpl
  refine thn (hkw.run pos pins s σ H _ I h) fun ws s2 ⟨zs, H2, I2, rz, l1, l2, q2⟩ => ⟨I2.kIn, ?_⟩
  rw [hks]
  exact run_fnNS (us := []) (vs := []) F hr hb (hx σ) I2 .nil rz rfl l2 q2
/-- the keywords' values -/
abbrev LK (X : DX) (W : WX) (kws : List Keyword) (d : DA) : Prop := PK X kws (liftA X W d)
theorem _root_.L2.PK.imp {X : Cx} {e : List Keyword} {t t' : TA} (h : PK X e t) (f : ∀ σ H Q, t' σ H Q → t σ H Q) : PK X e t' := ⟨fun pos pins s σ H Q I q => h.run pos pins s σ H Q I (f σ H Q q)⟩
theorem lk_nil : LK X W [] dNil := pk_nil.imp fun σ H Q ⟨ρ, av, sl, S, hs, he, g⟩ => g [] H ρ (Ext.refl _ _) hs .nil
theorem lift_cons {d : DE} {r : DA} (σ : L2.St) (H : Hp) (Q : List V → Hp → Prop) : liftA X W (dCons d r) σ H Q → tCons (liftE X W d) (liftA X W r) σ H Q := fun ⟨ρ, av, sl, S, hs, he, g⟩ => ⟨ρ, av, sl, S, hs, he, by
    unfold dCons at g
    cases hd : d sl S with
    | ok t S1 =>
      rw [hd] at g
      intro v H1 ρ1 e1 s1 r1
      have s1 := s1.ofN
      refine ⟨ρ1, av, sl, S1, s1, he.ext e1, ?_⟩
      cases hr' : r sl S1 with
      | ok ts S2 =>
        simp only [hr'] at g
        exact fun vs H2 ρ2 e2 s2 r2 => g (v :: vs) H2 ρ2 (e1.trans e2) s2 (.cons (r1.toV.ext e2) r2)
      | exc c fs S2 => simp only [hr'] at g; exact fun cls dd H2 ρ2 e2 s2 r2 => g cls dd H2 ρ2 (e1.trans e2) s2 r2
      | bad => simp only [hr'] at g; exact g
    | exc c fs S1 => rw [hd] at g; exact g
    | bad => rw [hd] at g; exact g⟩
theorem lk_cons {nm : Option Str} {e : Expr} {kpos : Pos} {kws : List Keyword} {d : DE} {r : DA} (h : LE X W e d) (hr : LK X W kws r) : LK X W (⟨nm, e, kpos⟩ :: kws) (dCons d r) := (pk_cons h hr).imp fun σ H Q q => lift_cons σ H Q q
/-- f(e, .., k = v, ..) -/
def dOwnK (n m : Nat) (perm : List Nat) (np : Nat) (d : DF) (da dk : DA) : DE := fun sl S => (da sl S).bind fun ts S1 => (dk sl S1).bind fun us S2 => if ts.length = n ∧ us.length = m ∧ (permL perm (ts ++ us)).length = np then d (permL perm (ts ++ us)) S2 else .bad
theorem lift_ownK {k n m : Nat} {perm : List Nat} {np : Nat} {d : DF} {da dk : DA} (σ : L2.St) (H : Hp) (Q : VK) : liftE X W (dOwnK n m perm np d da dk) σ H Q → tCallKS n m (spD X.K X.w X.mg np d) (fun us ws => permL perm (us ++ ws)) (WE W) (liftA X W da) (liftA X W dk) σ H Q :=
  fun ⟨ρ, av, sl, S, hs, hE, g⟩ => ⟨ρ, av, sl, S, hs, hE, GoodA.step g fun ts S1 vs H1 ρ1 e1 s1 r1 g1 => ⟨ρ1, av, sl, S1, s1, hE.ext e1, GoodA.step g1 fun us S2 zs H2 ρ2 e2 s2 r2 g2 => by
    split at g2
    · rename_i hl
      obtain ⟨l1, l2, l3⟩ := hl
      have rr := permL_vs ((r1.ext e2).append r2) perm
      refine ⟨by rw [r1.length]; exact l1, by rw [r2.length]; exact l2, by rw [rr.length]; exact l3, ρ2, av, _, S2, s2, rr, ?_⟩
      cases h : d (permL perm (ts ++ us)) S2 with
      | ok t S2 => rw [h] at g2; exact g2
      | exc c fs S2 => rw [h] at g2; exact g2
      | bad => rw [h] at g2; exact g2
    · exact g2.elim⟩⟩
/-- an own def: what a caller needs of it -/
def Own (P : Program) (w : World) (K : PySem.W.Frag) (mg : Str → Option Value) (base : Heap) (k : Nat) (x : Str) (ps : List Str) (d : DF) : Prop := ∃ f fd, mg x = some (.ref f) ∧ PySem.W.keepIn K (.ref f) = true ∧ Binds K fd ps [] ∧ FnOk P w K mg base (L2N.CX P w) k f fd ps (spD K w mg ps.length d)
/-- .. with keywords ks behind n places -/
def OwnK (P : Program) (w : World) (K : PySem.W.Frag) (mg : Str → Option Value) (base : Heap) (k : Nat) (x : Str) (ps : List Str) (d : DF) (n : Nat) (ks : List Str) (perm : List Nat) : Prop := ∃ f fd, mg x = some (.ref f) ∧ PySem.W.keepIn K (.ref f) = true ∧ KBn K fd ps n ks (fun us ws => permL perm (us ++ ws)) (fun us ws => permL perm (us ++ ws)) ∧ FnOk P w K mg base (L2N.CX P w) k f fd ps (spD K w mg ps.length d)
theorem le_call {k np : Nat} {ps : List Str} {d : DF} {x : Str} {p pos : Pos} {e : Expr} {es : List Expr} {da : DA} (F : Own X.prog X.w X.K X.mg X.base k x ps d) (hr : Room k X.A) (hg : Gl X x) (tk : L2N.Takes X W) (ha : LA X W (e :: es) da) (hdb : (x == ("__debug__" : Str)) = false := by decide) (he : starEach (e :: es) X.env = (false, eval e X.env) :: starEach es X.env := by rfl)
    (hpl : (backTo pos (starEach es X.env)).any (·.1) = false := by rfl) (hn : ps.length = np := by rfl) : LE X W (.Call (.Name x p) (e :: es) [] pos) (dOwn np d da) := by
  obtain ⟨f, fd, h1, h2, h3, h4⟩ := F
  subst hn
  exact le_own h4 hr hg h1 h2 h3 tk ha hdb he hpl
theorem le_callK {k n m np : Nat} {perm : List Nat} {ps ks : List Str} {d : DF} {x : Str} {p pos : Pos} {e : Expr} {es : List Expr} {kws : List Keyword} {da dk : DA} (F : OwnK X.prog X.w X.K X.mg X.base k x ps d n ks perm) (hr : Room k X.A) (hg : Gl X x) (tk : L2N.Takes X W) (ha : LA X W (e :: es) da) (hk : LK X W kws dk) (hm : ks.length = m := by rfl)
    (hall : (backToKw pos (keywordEach kws X.env)).all (·.1.isSome) = true := by rfl) (hks : (backToKw pos (keywordEach kws X.env)).filterMap (·.1) = ks := by rfl)
    (hdb : (x == ("__debug__" : Str)) = false := by decide) (he : starEach (e :: es) X.env = (false, eval e X.env) :: starEach es X.env := by rfl)
    (hpl : ((backTo pos (starEach (e :: es) X.env)).any (·.1) || (backToKw pos (keywordEach kws X.env)).any (·.1.isNone)) = false := by rfl) (hn : ps.length = np := by rfl) : LE X W (.Call (.Name x p) (e :: es) kws pos) (dOwnK n m perm np d da dk) := by
  obtain ⟨f, fd, h1, h2, h3, h4⟩ := F
  subst hm hn
  exact (pe_callKS h4 hr hg h1 h2 h3 (fun σ => L2N.passAt tk σ) ha hk hall hks hdb he hpl).imp fun σ H Q q => lift_ownK (k := k) σ H Q q
theorem le_callK0 {k m np : Nat} {perm : List Nat} {ps ks : List Str} {d : DF} {x : Str} {p pos : Pos} {kws : List Keyword} {dk : DA} (F : OwnK X.prog X.w X.K X.mg X.base k x ps d 0 ks perm) (hr : Room k X.A) (hg : Gl X x) (tk : L2N.Takes X W) (hk : LK X W kws dk) (hm : ks.length = m := by rfl)
    (hall : (backToKw pos (keywordEach kws X.env)).all (·.1.isSome) = true := by rfl) (hks : (backToKw pos (keywordEach kws X.env)).filterMap (·.1) = ks := by rfl)
    (hdb : (x == ("__debug__" : Str)) = false := by decide)
    (hpl : ((backTo pos (starEach [] X.env)).any (·.1) || (backToKw pos (keywordEach kws X.env)).any (·.1.isNone)) = false := by rfl) (hn : ps.length = np := by rfl) : LE X W (.Call (.Name x p) [] kws pos) (dOwnK 0 m perm np d dNil dk) := by
  obtain ⟨f, fd, h1, h2, h3, h4⟩ := F
  subst hm hn
  refine (pe_callKS0 h4 hr hg h1 h2 h3 (fun σ => L2N.passAt tk σ) hk hall hks hdb hpl).imp fun σ H Q q => ?_
  obtain ⟨ρ, av, sl, S, hs, hE, g⟩ := q
  have := lift_ownK (k := k) σ H Q ⟨ρ, av, sl, S, hs, hE, g⟩
  obtain ⟨ρ', av', sl', S', hs', hE', g'⟩ := this
  exact g' [] H ρ' (Ext.refl _ _) hs' .nil
end
/-- THE RULE of a def, over the facts by names -/
theorem fn_okD {P : Program} {w : World} {K : PySem.W.Frag} {mg : Str → Option Value} {base : Heap} {x qual : Str} {params : Arguments} {body : List Stmt} {scope : Scope} {kws : List (Str × V)} {f : Addr} {fd : FuncData} {N ps : List Str} {k : Nat} {ds : DS} (F : FunD K x qual params body scope [] kws f fd) (S : FnScope N ps scope)
    (hb : ∀ (cdv : Value) (A : Around) (outer : List Env) (s : Shared) (H : Hp) (E : XK), Room k (A.deeper (PyProof.Rows.envOfC qual scope s.heap.objs.size f cdv)) →
      LSs ⟨cxOf (L2N.CX P w) P w K mg base N qual scope f cdv A outer s H E, none⟩ (WF E) body ds) : FnOk P w K mg base (L2N.CX P w) (k + 1) f fd ps (spD K w mg ps.length (dFun ps.length N.length ds)) := by
  refine F.ok S (fun vs H Q E h => h.1) (fun cdv A outer s H vs Q E hr h => ⟨_, hb cdv A outer s H E hr, ?_⟩)
  obtain ⟨hl, ρ, av, ts, St, hs, rv, g⟩ := h
  have hlt : ts.length = ps.length := by rw [← rv.length]; exact hl
  refine ⟨ρ, av, _, St, hs, start_rep (N := N) rv, ?_⟩
  unfold dFun at g
  rw [if_pos hlt] at g
  rw [hlt]
  generalize ds (ts.map some ++ List.replicate (N.length - ps.length) none) St = res at g
  cases res with
  | nx sl S' => exact fun σ' H' ρ' e s' _ _ => good_gcT hs g e s' .non
  | rt t S' => exact fun v H' ρ' e s' r => good_gcT hs g e s' r
  | exc c fs sl S' => exact fun cls dd σ' H' ρ' e s' _ _ rx => good_gcX hs g e s' rx
  | bk sl S' => exact g.elim
  | ct sl S' => exact g.elim
  | bad => exact g.elim
end Dn

namespace Dn
open PySem PySem.Spec L2
section
variable {X : DX} {W : WX} {pos : Pos}
theorem le_i {i : Int} {j : Nat} : LE X W (.Constant (.int i) j pos) (dC (.int i)) := le_c pe_int fun _ _ _ => .int _
theorem le_s {x : Str} {j : Nat} : LE X W (.Constant (.str x) j pos) (dC (.str x)) := le_c pe_str fun _ _ _ => .str _
theorem le_b {b : Bool} {j : Nat} : LE X W (.Constant (.bool b) j pos) (dC (.bl b)) := le_c pe_bl fun _ _ _ => .bl _
theorem le_n {j : Nat} : LE X W (.Constant .none j pos) (dC .non) := le_c pe_non fun _ _ _ => .non
/-- a constant of the program's top -/
def GC (K : PySem.W.Frag) (w : World) (mg : Str → Option Value) (x : Str) (t : T) : Prop := ∃ u v, mg x = some u ∧ RelV v u ∧ ∀ H ρ av, RepV K w H ρ av v t
theorem le_g {x : Str} {t : T} (hg : Gl X x) (h : GC X.K X.w X.mg x t) (hd : (x == ("__debug__" : Str)) = false := by decide) : LE X W (.Name x pos) (dC t) := by
  obtain ⟨u, v, h1, h2, h3⟩ := h
  exact le_c (pe_glob hg h1 h2 hd) h3
theorem hu65 {k : Nat} {A : Around} (r : Room k A) : A.units + 65 < cLine := by have := r.un; omega
end

/-! ### constants of the top, looked at in the written part -/
mutual
def chk (K : PySem.W.Frag) : T → Value → Bool
  | .non, .none => true
  | .bl b, .bool c => b == c
  | .int i, .int j _ => decide (i = j)
  | .str x, .str y _ => decide (x = y)
  | .ktup ts, .ref a => (match K.lookup a with
    | some ⟨.type c, _, .seq its _, _⟩ => decide (c = "tuple") && (decide (its.size ≤ sizeLine) && chks K ts its.toList)
    | _ => false)
  | _, _ => false
def chks (K : PySem.W.Frag) : List T → List Value → Bool
  | [], [] => true
  | t :: ts, u :: us => chk K t u && chks K ts us
  | _, _ => false
end
mutual
theorem chk_ok {K : PySem.W.Frag} {w : World} : ∀ {t : T} {u : Value}, chk K t u = true → ∃ v, RelV v u ∧ ∀ H ρ av, RepV K w H ρ av v t
  | .non, u, h => by
    cases u with
    | none => exact ⟨.non, rfl, fun _ _ _ => .non⟩
    | _ => simp [chk] at h
  | .bl b, u, h => by
    cases u with
    | bool c =>
      rw [chk] at h
      have e : b = c := by simpa using h
      subst e
      exact ⟨.bl b, rfl, fun _ _ _ => .bl b⟩
    | _ => simp [chk] at h
  | .int i, u, h => by
    cases u with
    | int j t =>
      rw [chk] at h
      have e := of_decide_eq_true h
      subst e
      exact ⟨.int i, ⟨_, rfl⟩, fun _ _ _ => .int i⟩
    | _ => simp [chk] at h
  | .str x, u, h => by
    cases u with
    | str j t =>
      rw [chk] at h
      have e := of_decide_eq_true h
      subst e
      exact ⟨.str x, ⟨_, rfl⟩, fun _ _ _ => .str x⟩
    | _ => simp [chk] at h
  | .ktup ts, u, h => by
    cases u with
    | ref a =>
      rw [chk] at h
      cases hl : K.lookup a with
      | none => rw [hl] at h; cases h
      | some o =>
        rw [hl] at h
        obtain ⟨oc, od, dt, sl⟩ := o
        cases oc with
        | type c =>
          cases dt with
          | seq its n =>
            simp only [Bool.and_eq_true] at h
            obtain ⟨h1, h2, h3⟩ := h
            obtain ⟨vs, r1, r2⟩ := chks_ok (w := w) h3
            have e := of_decide_eq_true h1
            subst e
            exact ⟨.ref a, rfl, fun H ρ av => .tupK ⟨_, its, n, hl, rfl, rfl, of_decide_eq_true h2, r1⟩ (r2 H ρ av)⟩
          | _ => cases h
        | _ => cases h
    | _ => simp [chk] at h
  | .tup ts, u, h => by simp [chk] at h
  | .lst ts, u, h => by simp [chk] at h
  | .nlst ts, u, h => by simp [chk] at h
  | .flst ts, u, h => by simp [chk] at h
  | .ref i, u, h => by simp [chk] at h
  | .dic i, u, h => by simp [chk] at h
theorem chks_ok {K : PySem.W.Frag} {w : World} : ∀ {ts : List T} {us : List Value}, chks K ts us = true → ∃ vs, Vals vs us ∧ ∀ H ρ av, RepVs K w H ρ av vs ts
  | [], us, h => by
    cases us with
    | nil => exact ⟨[], .nil, fun _ _ _ => .nil⟩
    | cons u us => simp [chks] at h
  | t :: ts, us, h => by
    cases us with
    | nil => simp [chks] at h
    | cons u us =>
      rw [chks, Bool.and_eq_true] at h
      obtain ⟨v, r1, r2⟩ := chk_ok (w := w) h.1
      obtain ⟨vs, q1, q2⟩ := chks_ok (w := w) h.2
      exact ⟨v :: vs, .cons r1 q1, fun H ρ av => .cons (r2 H ρ av) (q2 H ρ av)⟩
end
/-- a plain constant by name -/
def chkG (K : PySem.W.Frag) (x : Str) (t : T) : Bool := match PySem.W.nsIn K mainGlobals x with
  | some (some u) => chk K t u
  | _ => false
theorem chkG_ok {K : PySem.W.Frag} {w : World} {h : Heap} {mg : Str → Option Value} (X : K.In h) (G : h.Ns mainGlobals mg) {x : Str} {t : T} (c : chkG K x t = true) : GC K w mg x t := by
  unfold chkG at c
  split at c
  · rename_i u hu
    obtain ⟨v, r1, r2⟩ := chk_ok (w := w) c
    exact ⟨u, v, PySem.W.mg_of X G hu, r1, r2⟩
  · cases c
/-- a table by name: its entries -/
def chkE (K : PySem.W.Frag) : List (Str × T) → List DictEntry → Bool
  | [], [] => true
  | (x, t) :: kvs, e :: es => (match e.key with
    | .str y _ => decide (x = y)
    | _ => false) && (chk K t e.val && (!e.refKey && chkE K kvs es))
  | _, _ => false
def chkD (K : PySem.W.Frag) (x : Str) (kvs : List (Str × T)) : Bool := (match PySem.W.nsIn K mainGlobals x with
  | some (some (.ref a)) => (match K.lookup a with
    | some ⟨_, _, .dict es _, _⟩ => chkE K kvs es.toList
    | _ => false)
  | _ => false) && decide (kvs.map (·.1)).Nodup
theorem chkE_ok {K : PySem.W.Frag} {w : World} {a : Addr} : ∀ {kvs : List (Str × T)} {es : List DictEntry}, chkE K kvs es = true → (kvs.map (·.1)).Nodup → ∃ vals : List (Key × V), (∀ p ∈ vals, ∃ z, p.1 = Sum.inr z) ∧ (∀ H ρ av, RepKs K w H ρ av vals (kvs.map fun p => (Sum.inr p.1, p.2))) ∧
    (es.any (·.refKey)) = false ∧ ∀ z : Str, (∃ v e, valV vals (.inr z) = some v ∧ es.find? (·.key.isStr z) = some e ∧ RelV v e.val) ∨ (valV vals (.inr z) = none ∧ es.find? (·.key.isStr z) = none)
  | [], [], _, _ => ⟨[], fun p (hp : p ∈ ([] : List (Key × V))) => absurd hp (by simp), fun _ _ _ => RepKs.nil, rfl, fun z => .inr ⟨rfl, rfl⟩⟩
  | [], _ :: _, h, _ => by simp [chkE] at h
  | _ :: _, [], h, _ => by simp [chkE] at h
  | (x, t) :: kvs, e :: es, h, nd => by
    rw [chkE, Bool.and_eq_true, Bool.and_eq_true, Bool.and_eq_true] at h
    obtain ⟨h1, h2, h3, h4⟩ := h
    rw [List.map_cons, List.nodup_cons] at nd
    obtain ⟨vals, q1, q2, q3, q4⟩ := chkE_ok (w := w) (a := a) h4 nd.2
    obtain ⟨v, r1, r2⟩ := chk_ok (w := w) h2
    have hk : ∀ z : Str, e.key.isStr z = decide (x = z) := by
      intro z
      split at h1
      · rename_i y tk ey
        have e2 := of_decide_eq_true h1
        subst e2
        rw [ey]
        simp only [Value.isStr]
        by_cases c : x = z
        · subst c; simp
        · rw [decide_eq_false c]
          exact beq_eq_false_iff_ne.mpr c
      · cases h1
    refine ⟨(.inr x, v) :: vals, fun p hp => ?_, fun H ρ av => .cons (r2 H ρ av) (q2 H ρ av), by rw [List.any_cons, q3]; simpa using h3, fun z => ?_⟩
    · rcases List.mem_cons.mp hp with rfl | hp
      · exact ⟨x, rfl⟩
      · exact q1 p hp
    · by_cases c : x = z
      · subst c
        exact .inl ⟨v, e, valV_pos rfl, by rw [List.find?_cons, hk]; simp, r1⟩
      · have c' : ¬ (Sum.inr x : Key) = Sum.inr z := fun q => c (Sum.inr.inj q)
        have f : (e :: es).find? (·.key.isStr z) = es.find? (·.key.isStr z) := by
          rw [List.find?_cons]
          simp only [hk, decide_eq_false c]
        rw [f, valV_neg c']
        exact q4 z
theorem chkD_ok {K : PySem.W.Frag} {w : World} {h : Heap} {mg : Str → Option Value} (X : K.In h) (G : h.Ns mainGlobals mg) {x : Str} {kvs : List (Str × T)} {es : Array DictEntry} {n : Nat} (D : KDict K w (He.ga K x) es n) (c : chkD K x kvs = true) : GC K w mg x (.dic (kvs.map fun p => (Sum.inr p.1, p.2))) := by
  unfold chkD at c
  rw [Bool.and_eq_true] at c
  obtain ⟨c, nd⟩ := c
  have nd := of_decide_eq_true nd
  cases hn : PySem.W.nsIn K mainGlobals x with
  | none => rw [hn] at c; cases c
  | some o =>
    rw [hn] at c
    cases o with
    | none => cases c
    | some u =>
      cases u with
      | ref a =>
        have ea : He.ga K x = a := by unfold He.ga; rw [hn]
        rw [ea] at D
        simp only [D.at_] at c
        obtain ⟨vals, q1, q2, q3, q4⟩ := chkE_ok (w := w) (a := a) c nd
        refine ⟨.ref a, .ref a, PySem.W.mg_of X G hn, rfl, fun H ρ av => .dicK ⟨es, n, D, fun z => ?_⟩ q1 (q2 H ρ av)⟩
        rcases q4 z with ⟨v, e, h1, h2, h3⟩ | ⟨h1, h2⟩
        · exact .inl ⟨v, e.val, h1, by unfold PySem.W.nsIn; rw [D.at_]; simp only [h2], h3⟩
        · refine .inr ⟨h1, ?_⟩
          unfold PySem.W.nsIn
          rw [D.at_]
          simp only [h2, q3]
          rfl
      | _ => cases c
/-- .., with its object told -/
structure OwnAt (P : Program) (w : World) (K : PySem.W.Frag) (mg : Str → Option Value) (base : Heap) (k : Nat) (x : Str) (ps : List Str) (d : DF) (f : Addr) (fd : FuncData) : Prop where
  hm : mg x = some (.ref f)
  kp : PySem.W.keepIn K (.ref f) = true
  bi : Binds K fd ps []
  ok : FnOk P w K mg base (L2N.CX P w) k f fd ps (spD K w mg ps.length d)
theorem OwnAt.own {P : Program} {w : World} {K : PySem.W.Frag} {mg : Str → Option Value} {base : Heap} {k : Nat} {x : Str} {ps : List Str} {d : DF} {f : Addr} {fd : FuncData} (h : OwnAt P w K mg base k x ps d f fd) : Own P w K mg base k x ps d := ⟨f, fd, h.hm, h.kp, h.bi, h.ok⟩
theorem OwnAt.kw {P : Program} {w : World} {K : PySem.W.Frag} {mg : Str → Option Value} {base : Heap} {k n : Nat} {x : Str} {ps ks : List Str} {d : DF} {f : Addr} {fd : FuncData} {perm : List Nat} (h : OwnAt P w K mg base k x ps d f fd) (b : KBn K fd ps n ks (fun us ws => permL perm (us ++ ws)) (fun us ws => permL perm (us ++ ws))) : OwnK P w K mg base k x ps d n ks perm := ⟨f, fd, h.hm, h.kp, b, h.ok⟩
/-- a def of the top, from the head's facts -/
theorem own_of {P : Program} {w : World} {K : PySem.W.Frag} {mg : Str → Option Value} {base : Heap} {x : Str} {d : He.DefD} {f : Addr} {fd : FuncData} {N ps : List Str} {k np n : Nat} {ds : DS} (F : FunD K d.name d.qual d.params d.body d.scope [] [] f fd) (hm : mg x = some (.ref f)) (S : FnScope N ps d.scope)
    (hbi : ∀ (kV doc pm : Value) (an : Option Addr) (cdv ct : Value) (us : List Value), us.length = ps.length → bindArgs (PySem.W.fnOf d.name d.qual d.params d.body d.scope .none kV doc pm an cdv ct) ⟨us, []⟩ = pure (ps.zip us))
    (hb : ∀ (cdv : Value) (A : Around) (outer : List Env) (s : Shared) (H : Hp) (E : XK), Room k (A.deeper (PyProof.Rows.envOfC d.qual d.scope s.heap.objs.size f cdv)) →
      LSs ⟨cxOf (L2N.CX P w) P w K mg base N d.qual d.scope f cdv A outer s H E, none⟩ (WF E) d.body ds) (hnp : ps.length = np := by rfl) (hn : N.length = n := by rfl) : OwnAt P w K mg base (k + 1) x ps (dFun np n ds) f fd := by
  subst hnp hn
  exact ⟨hm, F.kp, F.bindsN hbi, fn_okD F S hb⟩
/-- the law's promise from its def's reading -/
theorem law_sp {K : PySem.W.Frag} {w : World} {mg : Str → Option Value} {F : DF} {n : Nat} (h : ∀ ns : List Int, ns.length ≤ n → ∃ S', F [.flst (ns.map T.int)] [] = .ok (.bl true) S') {H : Hp} {a : Addr} {ns : List Int} (hl : ns.length ≤ n) (ho : Only H) (hs : SqL K H a (ns.map V.int)) :
    spD K w mg 1 F [.ref a] H (fun v _ => v = .bl true) fun _ _ _ => False := by
  have hints : ∀ ms : List Int, RepVs K w H [] [] (ms.map V.int) (ms.map T.int) := fun ms => by
    induction ms with
    | nil => exact .nil
    | cons m ms ih => exact .cons (.int m) ih
  have r : RepV K w H [] [] (.ref a) (.flst (ns.map T.int)) := .flst (by
    rcases hs with (hs | ⟨o, hs⟩) | hs
    · rcases ho a with q | ⟨o, xs, q⟩
      · rw [q] at hs; cases hs
      · rw [q] at hs; cases hs
    · exact .inl ⟨o, hs⟩
    · exact .inr hs) (hints ns)
  obtain ⟨S', e⟩ := h ns hl
  refine ⟨rfl, [], [], [.flst (ns.map T.int)], [], ⟨rfl, List.nodup_nil, fun i a o h => by simp at h, fun a h => nomatch h⟩, .cons r .nil, ?_⟩
  rw [e]
  exact fun v H' ρ' _ _ r => RepV.bl_inv (r : RepV K w H' ρ' [] v (.bl true))
/-- THE END of a law -/
theorem walk_law {l : PySem.W.OpenLaw} {k : Nat} {q : Program} {loose : List Str} {XP : (Str → Option Value) → Heap → Prop} {YP : World → Heap → Prop} {d : DefRec} {F : DF} (hn : l.most = some 63) (hdf : d.params.defaults = []) (hr : Room k callerA) (hF : ∀ ns : List Int, ns.length ≤ 63 → ∃ S', F [.flst (ns.map T.int)] [] = .ok (.bl true) S')
    (hX : ∀ (w : World) (mg : Str → Option Value) (fa : Addr) (h : Heap), YP w h → h.Ns mainGlobals mg → mg d.name = some (.ref fa) →
      ∃ (K : PySem.W.Frag) (fd : FuncData), K.In h ∧ (∀ (s : Shared) (u : Value), BindsTo s fd ⟨[u], []⟩ [("script", u)]) ∧ ∀ base : Heap, ∃ f, mg d.name = some (.ref f) ∧ OwnAt l.prog w K mg base k "law" ["script"] F f fd) :
    PySem.W.WalkO q loose XP YP l.row.toRowW d [] (fun f vs => PySem.call f vs) := by
  refine Att.attach_call hn hdf fun w s₀ s₁ mg mb fa o pm cd doc a vs ns G Y ho hd hcd hmg hobj hints hlen hg => ?_
  obtain ⟨K, fd, KX, hb, hO⟩ := hX w mg fa _ Y G.T.g hmg
  refine law_call (CX := L2N.CX l.prog w) (sp := spD K w mg 1 F) KX G.T.g G.T.b G.T.builtins G.T.nolimit hg hobj hints (Nat.le_trans hlen (by decide)) hr (fun base _ _ => ?_) hb (fun H h1 h2 => law_sp hF hlen h1 h2) fun H e s' c => ?_
  · obtain ⟨f, e, O⟩ := hO base
    rw [hmg] at e
    cases e
    exact O.ok
  · obtain ⟨_, _, _, _, _, _, _, _, _, _, _, _, z⟩ := c
    exact z

/-! ### small helpers -/
section
variable {X : DX} {W : WX} {pos : Pos}
theorem pip_addI : PIp X .Add rAddI := fun pins s σ H x y v u Q I rx ry q => iop_addI pins s σ H x y v u Q I rx ry q
def dNotB (c : DB) : DE := fun sl S => (c sl S).bindE fun k S1 => .ok (.bl (!k)) S1
def blkB (N : List Str) (sc scope : Scope) (own : List (Str × Nat)) : Bool :=
  decide (scope.kind = .function) && ((scope.names.all fun y => decide (scope.names.lookup y.1 = some y.2)) && ((own.all fun p => decide (N[p.2]? = some p.1)) &&
    ((scope.names.all fun y => decide (y.2 = .free → sc.names.lookup y.1 = some .cell ∨ sc.names.lookup y.1 = some .free)) && scope.names.all fun y => decide (y.2 = .local ∨ y.2 = .cell → y.1 ∈ own.map (·.1) ∨ y.1 ∉ N))))
theorem blk_of {N : List Str} {sc scope : Scope} {own : List (Str × Nat)} (h : blkB N sc scope own = true) : BlkOk N sc scope own := by
  unfold blkB at h
  simp only [Bool.and_eq_true] at h
  obtain ⟨h1, h2, h3, h4, h5⟩ := h
  exact ⟨of_decide_eq_true h1, fun y hy => of_decide_eq_true (List.all_eq_true.mp h2 y hy), fun p hp => of_decide_eq_true (List.all_eq_true.mp h3 p hp), fun y hy => of_decide_eq_true (List.all_eq_true.mp h4 y hy), fun y hy => of_decide_eq_true (List.all_eq_true.mp h5 y hy)⟩
end
end Dn

/-! reading the denotations: one line a construct -/
namespace Dn
open PySem PySem.Spec L2

/-! ### binds -/
section
variable {t : T} {S S1 : Sto} {sl sl1 : Sl} {b : Bool} {c : Str} {fs : Flds} {ts : List T}
@[simp] theorem RE.bind_ok (f : T → Sto → RE) : (RE.ok t S).bind f = f t S := id rfl
@[simp] theorem RE.bind_bad (f : T → Sto → RE) : RE.bad.bind f = .bad := id rfl
@[simp] theorem RE.bind_exc (f : T → Sto → RE) : (RE.exc c fs S).bind f = .exc c fs S := id rfl
@[simp] theorem RE.toS_ok (f : T → Sto → RS) : (RE.ok t S).toS sl f = f t S := id rfl
@[simp] theorem RE.toS_exc (f : T → Sto → RS) : (RE.exc c fs S).toS sl f = .exc c fs sl S := id rfl
@[simp] theorem RB.toS_ok (f : Bool → Sto → RS) : (RB.ok b S).toS sl f = f b S := id rfl
@[simp] theorem RB.toS_exc (f : Bool → Sto → RS) : (RB.exc c fs S).toS sl f = .exc c fs sl S := id rfl
@[simp] theorem RB.bind_ok (f : Bool → Sto → RB) : (RB.ok b S).bind f = f b S := id rfl
@[simp] theorem RB.bindE_ok (f : Bool → Sto → RE) : (RB.ok b S).bindE f = f b S := id rfl
@[simp] theorem RO.bindE_ok {o : Option Int} (f : Option Int → Sto → RE) : (RO.ok o S).bindE f = f o S := id rfl
@[simp] theorem RA.bind_ok (f : List T → Sto → RE) : (RA.ok ts S).bind f = f ts S := id rfl
def RS.seq (r : RS) (b : DS) : RS := match r with
  | .nx sl' S' => b sl' S'
  | r => r
@[simp] theorem RS.seq_nx (d : DS) : (RS.nx sl S).seq d = d sl S := id rfl
@[simp] theorem RS.seq_rt (d : DS) : (RS.rt t S).seq d = .rt t S := id rfl
@[simp] theorem RS.seq_bk (d : DS) : (RS.bk sl S).seq d = .bk sl S := id rfl
@[simp] theorem RS.seq_ct (d : DS) : (RS.ct sl S).seq d = .ct sl S := id rfl
@[simp] theorem RS.seq_exc (d : DS) : (RS.exc c fs sl S).seq d = .exc c fs sl S := id rfl
@[simp] theorem dSeq_eq (a b : DS) : dSeq a b sl S = (a sl S).seq b := id rfl
def varR (o : Option (Option T)) (S : Sto) : RE := match o with
  | some (some t) => .ok t S
  | _ => .bad
@[simp] theorem varR_some : varR (some (some t)) S = .ok t S := id rfl
@[simp] theorem dVar_eq (i : Nat) : dVar i sl S = varR sl[i]? S := id rfl
@[simp] theorem dC_eq : dC t sl S = .ok t S := id rfl
@[simp] theorem dBin_eq (f : T → T → Sto → RE) (da db : DE) : dBin f da db sl S = (da sl S).bind fun x S1 => (db sl S1).bind fun y S2 => f (fz x) (fz y) S2 := id rfl
@[simp] theorem dUn_eq (f : T → Sto → RE) (da : DE) : dUn f da sl S = (da sl S).bind fun x S1 => f (fz x) S1 := id rfl
def RE.toB (r : RE) : RB := match r with
  | .ok (.bl b) S' => .ok b S'
  | .ok _ _ => .bad
  | .exc c fs S' => .exc c fs S'
  | .bad => .bad
@[simp] theorem RE.toB_ok : (RE.ok (.bl b) S).toB = .ok b S := id rfl
@[simp] theorem dTest_eq (d : DE) : dTest d sl S = (d sl S).toB := id rfl
def RE.toT (r : RE) : RB := match r with
  | .ok t S' => (match truT S' (fz t) with | some b => .ok b S' | none => .bad)
  | .exc c fs S' => .exc c fs S'
  | .bad => .bad
@[simp] theorem RE.toT_bl : (RE.ok (.bl b) S).toT = .ok b S := id rfl
@[simp] theorem dTru_eq (d : DE) : dTru d sl S = (d sl S).toT := id rfl
@[simp] theorem dAnd_eq (a b : DB) : dAnd a b sl S = (a sl S).bind fun c S1 => if c then b sl S1 else .ok false S1 := id rfl
@[simp] theorem dOr_eq (a b : DB) : dOr a b sl S = (a sl S).bind fun c S1 => if c then .ok true S1 else b sl S1 := id rfl
@[simp] theorem dNot_eq (a : DB) : dNot a sl S = (a sl S).bind fun c S1 => .ok (!c) S1 := id rfl
def RE.andV (r : RE) (f : Sto → RE) : RE := r.bind fun x S1 => match x with
  | .bl true => f S1
  | .bl false => .ok (.bl false) S1
  | _ => .bad
@[simp] theorem RE.andV_ok (f : Sto → RE) : (RE.ok (.bl b) S).andV f = if b then f S else .ok (.bl false) S := by cases b <;> rfl
@[simp] theorem dAndV_eq (a d : DE) : dAndV a d sl S = (a sl S).andV (d sl) := id rfl
def RE.orV (r : RE) (f : Sto → RE) : RE := r.bind fun x S1 => match x with
  | .bl true => .ok (.bl true) S1
  | .bl false => f S1
  | _ => .bad
@[simp] theorem RE.orV_ok (f : Sto → RE) : (RE.ok (.bl b) S).orV f = if b then .ok (.bl true) S else f S := by cases b <;> rfl
@[simp] theorem dOrV_eq (a d : DE) : dOrV a d sl S = (a sl S).orV (d sl) := id rfl
def RE.notV (r : RE) : RE := r.bind fun x S1 => match x with
  | .bl b => .ok (.bl (!b)) S1
  | _ => .bad
@[simp] theorem RE.notV_ok : (RE.ok (.bl b) S).notV = .ok (.bl (!b)) S := id rfl
@[simp] theorem dNotV_eq (a : DE) : dNotV a sl S = (a sl S).notV := id rfl
@[simp] theorem dIfE_eq (c : DB) (a b : DE) : dIfE c a b sl S = (c sl S).bindE fun k S1 => if k then a sl S1 else b sl S1 := id rfl
def RE.chainV (r : RE) (f : Sto → RE) : RE := r.bind fun z S3 => match z with
  | .bl true => f S3
  | .bl false => .ok (.bl false) S3
  | _ => .bad
@[simp] theorem RE.chainV_ok (f : Sto → RE) : (RE.ok (.bl b) S).chainV f = if b then f S else .ok (.bl false) S := by cases b <;> rfl
@[simp] theorem dChain_eq (f g : T → T → Sto → RE) (da db dc : DE) : dChain f g da db dc sl S = (da sl S).bind fun x S1 => (db sl S1).bind fun y S2 => (f (fz x) (fz y) S2).chainV fun S3 => (dc sl S3).bind fun u S4 => g (fz y) (fz u) S4 := id rfl
@[simp] theorem dNil_eq : dNil sl S = .ok [] S := id rfl
def RE.consA (r : RE) (f : Sto → RA) : RA := match r with
  | .ok t S1 => (match f S1 with
    | .ok ts S2 => .ok (fz t :: ts) S2
    | .exc c fs S2 => .exc c fs S2
    | .bad => .bad)
  | .exc c fs S1 => .exc c fs S1
  | .bad => .bad
def RA.cons (t : T) (r : RA) : RA := match r with
  | .ok ts S2 => .ok (t :: ts) S2
  | r => r
@[simp] theorem RA.cons_ok : (RA.ok ts S).cons t = .ok (t :: ts) S := id rfl
@[simp] theorem RE.consA_ok (f : Sto → RA) : (RE.ok t S).consA f = (f S).cons (fz t) := by
  unfold RE.consA RA.cons
  simp only
  cases f S <;> rfl
@[simp] theorem dCons_eq (d : DE) (r : DA) : dCons d r sl S = (d sl S).consA (r sl) := id rfl
@[simp] theorem dTup_eq (d : DA) : dTup d sl S = (d sl S).bind fun ts S1 => if ts.length ≤ sizeLine then .ok (.tup ts) S1 else .bad := id rfl
@[simp] theorem dLst_eq (d : DA) : dLst d sl S = (d sl S).bind fun ts S1 => if ts.length ≤ sizeLine then .ok (.nlst ts) S1 else .bad := id rfl
@[simp] theorem dCall_eq (f : List T → Sto → RE) (d : DA) : dCall f d sl S = (d sl S).bind f := id rfl
@[simp] theorem dOwn_eq (np : Nat) (d : DF) (da : DA) : dOwn np d da sl S = (da sl S).bind fun ts S1 => if ts.length = np then d ts S1 else .bad := id rfl
@[simp] theorem dOwnK_eq (n m : Nat) (perm : List Nat) (np : Nat) (d : DF) (da dk : DA) : dOwnK n m perm np d da dk sl S = (da sl S).bind fun ts S1 => (dk sl S1).bind fun us S2 => if ts.length = n ∧ us.length = m ∧ (permL perm (ts ++ us)).length = np then d (permL perm (ts ++ us)) S2 else .bad := id rfl
@[simp] theorem dNoPart_eq : dNoPart sl S = .ok none S := id rfl
def RE.part (r : RE) : RO := match r with
  | .ok (.int i) S1 => .ok (some i) S1
  | .ok _ _ => .bad
  | .exc c fs S1 => .exc c fs S1
  | .bad => .bad
@[simp] theorem RE.part_int {i : Int} : (RE.ok (.int i) S).part = .ok (some i) S := id rfl
@[simp] theorem dSl_eq (da : DE) (dl dh : DO) : dSl da dl dh sl S = (da sl S).bind fun x S1 => (dl sl S1).bindE fun l S2 => (dh sl S2).bindE fun u S3 => fSl (fz x) l u S3 := id rfl
@[simp] theorem dMeth_eq (N : String) (f : T → List T → Sto → RE) (d : DE) (da : DA) : dMeth N f d da sl S = (d sl S).bind fun x S1 => if mTy S1 (fz x) = some N then (da sl S1).bind fun ts S2 => f (fz x) ts S2 else .bad := id rfl
@[simp] theorem dMeth0_eq (N : String) (f : T → List T → Sto → RE) (d : DE) : dMeth0 N f d sl S = (d sl S).bind fun x S1 => if mTy S1 (fz x) = some N then f (fz x) [] S1 else .bad := id rfl
def RE.m (r : RE) : RE := r.bind fun t S1 => match t with
  | .nlst ts => .ok (.ref S1.length) (S1 ++ [.lst ts])
  | t => .ok t S1
@[simp] theorem RE.m_nlst : (RE.ok (.nlst ts) S).m = .ok (.ref S.length) (S ++ [.lst ts]) := id rfl
@[simp] theorem dM_eq (d : DE) : dM d sl S = (d sl S).m := id rfl
def RE.orElse' (a b : RE) : RE := match a with
  | .bad => b
  | r => r
@[simp] theorem RE.orElse_ok (r : RE) : (RE.ok t S).orElse' r = .ok t S := id rfl
@[simp] theorem RE.orElse_bad (r : RE) : RE.bad.orElse' r = r := id rfl
@[simp] theorem dOrElse_eq (a b : DE) : dOrElse a b sl S = (a sl S).orElse' (b sl S) := by unfold dOrElse RE.orElse'; cases a sl S <;> rfl
def isiR (N : String) (o : Option String) (S : Sto) : RE := match o with
  | some n => .ok (.bl (isaB n N)) S
  | none => .bad
@[simp] theorem isiR_some {n N : String} : isiR N (some n) S = .ok (.bl (isaB n N)) S := id rfl
@[simp] theorem dIsi_eq (N : String) (d : DE) : dIsi N d sl S = (d sl S).bind fun x S1 => isiR N (tyT S1 (fz x)) S1 := id rfl
/-! ### statements -/
@[simp] theorem dNext_eq : dNext sl S = .nx sl S := id rfl
@[simp] theorem dBreak_eq : dBreak sl S = .bk sl S := id rfl
@[simp] theorem dCont_eq : dCont sl S = .ct sl S := id rfl
@[simp] theorem dExpr_eq (d : DE) : dExpr d sl S = (d sl S).toS sl fun _ S1 => .nx sl S1 := id rfl
@[simp] theorem dRet_eq (d : DE) : dRet d sl S = (d sl S).toS sl fun t S1 => .rt t S1 := id rfl
@[simp] theorem dRetN_eq : dRetN sl S = .rt .non S := id rfl
@[simp] theorem dIf_eq (c : DB) (a b : DS) : dIf c a b sl S = (c sl S).toS sl fun k S1 => if k then a sl S1 else b sl S1 := id rfl
@[simp] theorem dSet_eq (i : Nat) (d : DE) : dSet i d sl S = (d sl S).toS sl fun t S1 => .nx (sl.set i (some (fz t))) S1 := id rfl
def setM (i : Nat) (sl : Sl) (S1 : Sto) (t : T) : RS := match t with
  | .nlst ts => .nx (sl.set i (some (.ref S1.length))) (S1 ++ [.lst ts])
  | t => .nx (sl.set i (some t)) S1
@[simp] theorem setM_nlst {i : Nat} : setM i sl S (.nlst ts) = .nx (sl.set i (some (.ref S.length))) (S ++ [.lst ts]) := id rfl
@[simp] theorem setM_ref {i k : Nat} : setM i sl S (.ref k) = .nx (sl.set i (some (.ref k))) S := id rfl
@[simp] theorem dSetM_eq (i : Nat) (d : DE) : dSetM i d sl S = (d sl S).toS sl fun t S1 => setM i sl S1 t := id rfl
def asgR (o : Option (Sl × Sto)) : RS := match o with
  | some (sl', S') => .nx sl' S'
  | none => .bad
@[simp] theorem asgR_some : asgR (some (sl, S)) = .nx sl S := id rfl
@[simp] theorem dAsg_eq (d : DE) (g : DG) : dAsg d g sl S = (d sl S).toS sl fun t S1 => asgR (g (fz t) sl S1) := id rfl
@[simp] theorem gN_eq (i : Nat) : gN i t sl S = some (sl.set i (some t), S) := id rfl
@[simp] theorem gsNil_eq : gsNil [] sl S = some (sl, S) := id rfl
def gsR (o : Option (Sl × Sto)) (f : Sl → Sto → Option (Sl × Sto)) : Option (Sl × Sto) := match o with
  | some (sl', S') => f sl' S'
  | none => none
@[simp] theorem gsR_some (f : Sl → Sto → Option (Sl × Sto)) : gsR (some (sl, S)) f = f sl S := id rfl
@[simp] theorem gsCons_eq (g : DG) (r : DGs) : gsCons g r (t :: ts) sl S = gsR (g t sl S) (r ts) := id rfl
def gTR (o : Option (List T)) (n : Nat) (g : DGs) (sl : Sl) (S : Sto) : Option (Sl × Sto) := match o with
  | some ts => if ts.length = n then g ts sl S else none
  | none => none
@[simp] theorem gTR_some {n : Nat} (g : DGs) : gTR (some ts) n g sl S = if ts.length = n then g ts sl S else none := id rfl
@[simp] theorem gT_eq (n : Nat) (g : DGs) : gT n g t sl S = gTR (tupOf t) n g sl S := id rfl
@[simp] theorem tupOf_tup : tupOf (.tup ts) = some ts := id rfl
@[simp] theorem tupOf_ktup : tupOf (.ktup ts) = some ts := id rfl
/-! ### ops -/
@[simp] theorem fz_nlst : fz (.nlst ts) = .lst ts := id rfl
@[simp] theorem fz_lst : fz (.lst ts) = .lst ts := id rfl
@[simp] theorem fz_flst : fz (.flst ts) = .flst ts := id rfl
@[simp] theorem fz_tup : fz (.tup ts) = .tup ts := id rfl
@[simp] theorem fz_ktup : fz (.ktup ts) = .ktup ts := id rfl
@[simp] theorem fz_int {i : Int} : fz (.int i) = .int i := id rfl
@[simp] theorem fz_str {x : Str} : fz (.str x) = .str x := id rfl
@[simp] theorem fz_bl : fz (.bl b) = .bl b := id rfl
@[simp] theorem fz_non : fz .non = .non := id rfl
@[simp] theorem fz_ref {k : Nat} : fz (.ref k) = .ref k := id rfl
@[simp] theorem fz_dic {kvs : List (Key × T)} : fz (.dic kvs) = .dic kvs := id rfl
@[simp] theorem fAdd_int {i j : Int} : fAdd (.int i) (.int j) S = .ok (.int (i + j)) S := id rfl
@[simp] theorem fAdd_tup {xs ys : List T} : fAdd (.tup xs) (.tup ys) S = if xs.length + ys.length ≤ sizeLine then .ok (.tup (xs ++ ys)) S else .bad := id rfl
@[simp] theorem fAdd_str {x y : Str} : fAdd (.str x) (.str y) S = if x.length + y.length ≤ sizeLine then .ok (.str (x ++ y)) S else .bad := id rfl
@[simp] theorem fAdd_lst {xs ys : List T} : fAdd (.lst xs) (.lst ys) S = if xs.length + ys.length ≤ sizeLine then .ok (.nlst (xs ++ ys)) S else .bad := id rfl
@[simp] theorem fInt_int {C : Int → Int → Prop} [∀ i j, Decidable (C i j)] {g : Int → Int → Int} {i j : Int} : fInt C g (.int i) (.int j) S = if C i j then .ok (.int (g i j)) S else .bad := id rfl
@[simp] theorem fMul_str {z : Str} {k : Int} : fMul (.str z) (.int k) S = if -(2 ^ 63) ≤ k ∧ k < 2 ^ 63 ∧ z.length * k.toNat ≤ 16777216 then .ok (.str (repS z k.toNat)) S else .bad := id rfl
@[simp] theorem fMul_tup {xs : List T} {k : Int} : fMul (.tup xs) (.int k) S = if k = 1 then .ok (.tup xs) S else if xs ≠ [] ∧ 2 ≤ k ∧ k ≤ 1000 ∧ xs.length ≤ 1000 then .ok (.tup (List.replicate k.toNat xs).flatten) S else .bad := id rfl
@[simp] theorem fMul_int {i j : Int} : fMul (.int i) (.int j) S = if CMulA i j then .ok (.int (i * j)) S else .bad := id rfl
@[simp] theorem fLt_int {fi : Int → Int → Bool} {fs : List Nat → List Nat → Bool} {i j : Int} : fLt fi fs (.int i) (.int j) S = .ok (.bl (fi i j)) S := id rfl
@[simp] theorem fEq_int {n : Bool} {i j : Int} : fEq n (.int i) (.int j) S = .ok (.bl (if n then !decide (i = j) else decide (i = j))) S := id rfl
@[simp] theorem fEq_str {n : Bool} {i j : Str} : fEq n (.str i) (.str j) S = .ok (.bl (if n then !decide (i = j) else decide (i = j))) S := id rfl
@[simp] theorem fEq_bl {n : Bool} {i j : Bool} : fEq n (.bl i) (.bl j) S = .ok (.bl (if n then !decide (i = j) else decide (i = j))) S := id rfl
theorem fEq_tup {n : Bool} {xs ys : List T} : fEq n (.tup xs) (.tup ys) S = if fit (T.tup xs).dat && fit (T.tup ys).dat then .ok (.bl (if n then !(PyData.eqv (T.tup xs).dat (T.tup ys).dat) else PyData.eqv (T.tup xs).dat (T.tup ys).dat)) S else .bad := id rfl
@[simp] theorem fIs_non {n : Bool} : fIs n .non .non S = .ok (.bl (!n)) S := id rfl
@[simp] theorem fIs_tup {n : Bool} : fIs n (.tup ts) .non S = .ok (.bl n) S := id rfl
@[simp] theorem fIs_int {n : Bool} {i : Int} : fIs n (.int i) .non S = .ok (.bl n) S := id rfl
@[simp] theorem fIs_str {n : Bool} {i : Str} : fIs n (.str i) .non S = .ok (.bl n) S := id rfl
def ixR (o : Option T) (S : Sto) : RE := match o with
  | some t => .ok t S
  | none => .bad
@[simp] theorem ixR_some : ixR (some t) S = .ok t S := id rfl
@[simp] theorem fIx_tup {i : Int} : fIx (.tup ts) (.int i) S = ixR (atI ts i) S := id rfl
@[simp] theorem fIx_ktup {i : Int} : fIx (.ktup ts) (.int i) S = ixR (atI ts i) S := id rfl
@[simp] theorem fIx_lst {i : Int} : fIx (.lst ts) (.int i) S = ixR (atI ts i) S := id rfl
@[simp] theorem fIx_flst {i : Int} : fIx (.flst ts) (.int i) S = ixR (atI ts i) S := id rfl
theorem fIx_ref {i : Int} {k : Nat} (h : S[k]? = some (.lst ts)) : fIx (.ref k) (.int i) S = ixR (atI ts i) S := by
  unfold fIx
  have : seqOf S (.ref k) = some ts := by unfold seqOf lstOf; simp only [h]
  simp only [this]
  rfl
def ixO (o : Option (Option T)) (S : Sto) : RE := match o with
  | some (some t) => .ok t S
  | _ => .bad
@[simp] theorem ixO_some : ixO (some (some t)) S = .ok t S := id rfl
theorem fIx_dic {kvs : List (Key × T)} {x : Str} : fIx (.dic kvs) (.str x) S = ixO (some (getT kvs (.inr x))) S := id rfl
@[simp] theorem lstOf_lst : lstOf S (.lst ts) = some ts := id rfl
@[simp] theorem lstOf_flst : lstOf S (.flst ts) = some ts := id rfl
theorem lstOf_ref {k : Nat} (h : S[k]? = some (.lst ts)) : lstOf S (.ref k) = some ts := by unfold lstOf; simp only [h]
@[simp] theorem seqOf_lst : seqOf S (.lst ts) = some ts := id rfl
@[simp] theorem seqOf_flst : seqOf S (.flst ts) = some ts := id rfl
@[simp] theorem seqOf_tup : seqOf S (.tup ts) = some ts := id rfl
@[simp] theorem seqOf_ktup : seqOf S (.ktup ts) = some ts := id rfl
theorem seqOf_ref {k : Nat} (h : S[k]? = some (.lst ts)) : seqOf S (.ref k) = some ts := by unfold seqOf; exact lstOf_ref h
@[simp] theorem fLen_str {x : Str} : fLen [.str x] S = if x.length ≤ sizeLine then .ok (.int x.length) S else .bad := id rfl
@[simp] theorem fLen_tup : fLen [.tup ts] S = .ok (.int ts.length) S := id rfl
@[simp] theorem fLen_ktup : fLen [.ktup ts] S = .ok (.int ts.length) S := id rfl
@[simp] theorem fLen_lst : fLen [.lst ts] S = .ok (.int ts.length) S := id rfl
@[simp] theorem fLen_flst : fLen [.flst ts] S = .ok (.int ts.length) S := id rfl
theorem fLen_ref {k : Nat} (h : S[k]? = some (.lst ts)) : fLen [.ref k] S = .ok (.int ts.length) S := by
  unfold fLen
  simp only [seqOf_ref h]
@[simp] theorem fInt1_int {i : Int} : fInt1 [.int i] S = .ok (.int i) S := id rfl
@[simp] theorem fAbs_int {i : Int} : fAbs [.int i] S = .ok (.int (if i < 0 then -i else i)) S := id rfl
@[simp] theorem fTuple_tup : fTuple [.tup ts] S = .ok (.tup ts) S := id rfl
@[simp] theorem fTuple_lst : fTuple [.lst ts] S = .ok (.tup ts) S := id rfl
theorem fTuple_ref {k : Nat} (h : S[k]? = some (.lst ts)) : fTuple [.ref k] S = .ok (.tup ts) S := by
  unfold fTuple
  simp only [lstOf_ref h]
@[simp] theorem fTuple_str {z : Str} : fTuple [.str z] S = if z.length ≤ sizeLine then .ok (.tup (signs z)) S else .bad := id rfl
@[simp] theorem fList_str {z : Str} : fList [.str z] S = if z.length ≤ sizeLine then .ok (.nlst (signs z)) S else .bad := id rfl
@[simp] theorem fRev_tup : fRev (.tup ts) S = .ok (.tup ts.reverse) S := id rfl
@[simp] theorem fList_tup : fList [.tup ts] S = .ok (.nlst ts) S := id rfl
@[simp] theorem fList_lst : fList [.lst ts] S = .ok (.nlst ts) S := id rfl
@[simp] theorem fList_flst : fList [.flst ts] S = .ok (.nlst ts) S := id rfl
theorem fList_ref {k : Nat} (h : S[k]? = some (.lst ts)) : fList [.ref k] S = .ok (.nlst ts) S := by
  unfold fList
  simp only [seqOf_ref h]
@[simp] theorem fMax2_int {i j : Int} : fMax2 [.int i, .int j] S = .ok (.int (if j > i then j else i)) S := id rfl
@[simp] theorem fMin2_int {i j : Int} : fMin2 [.int i, .int j] S = .ok (.int (if j < i then j else i)) S := id rfl
@[simp] theorem fSl_tup {l u : Option Int} : fSl (.tup ts) l u S = .ok (.tup (cutT ts l u)) S := id rfl
@[simp] theorem fSl_lst {l u : Option Int} : fSl (.lst ts) l u S = .ok (.nlst (cutT ts l u)) S := id rfl
@[simp] theorem fSl_str {x : Str} {l u : Option Int} : fSl (.str x) l u S = if x.length ≤ sizeLine then .ok (.str (cutS x l u)) S else .bad := id rfl
@[simp] theorem mTy_str {x : Str} : mTy S (.str x) = some "str" := id rfl
@[simp] theorem mTy_lst : mTy S (.lst ts) = some "list" := id rfl
theorem mTy_ref {k : Nat} (h : S[k]? = some (.lst ts)) : mTy S (.ref k) = some "list" := by unfold mTy; simp only [h]
theorem fAppend_ref {k : Nat} {y : T} (h : S[k]? = some (.lst ts)) : fAppend (.ref k) [y] S = if ts.length < sizeLine then .ok .non (S.set k (.lst (ts ++ [y]))) else .bad := by
  unfold fAppend
  simp only [h]
end
/-- all of them, to unfold a text -/
@[simp] theorem dPart_eq {d : DE} {sl : Sl} {S : Sto} : dPart d sl S = (d sl S).part := by
  unfold dPart RE.part
  cases d sl S with
  | ok t S1 => cases t <;> rfl
  | _ => rfl
end Dn

/-! loops, comprehensions, a def's end -/
namespace Dn
open PySem PySem.Spec L2

/-! ### what tells of nothing in the store -/
mutual
theorem T.lt_mono {m n : Nat} (h : m ≤ n) : ∀ {t : T}, t.lt m = true → t.lt n = true
  | .non, _ => rfl
  | .bl _, _ => rfl
  | .int _, _ => rfl
  | .str _, _ => rfl
  | .tup ts, c => by rw [T.lt] at c ⊢; exact T.lts_mono h c
  | .lst ts, c => by rw [T.lt] at c ⊢; exact T.lts_mono h c
  | .nlst ts, c => by rw [T.lt] at c ⊢; exact T.lts_mono h c
  | .flst ts, c => by rw [T.lt] at c ⊢; exact T.lts_mono h c
  | .ktup ts, c => by rw [T.lt] at c ⊢; exact T.lts_mono h c
  | .ref i, c => by rw [T.lt] at c ⊢; have := of_decide_eq_true c; exact decide_eq_true (by omega)
  | .dic kvs, c => by rw [T.lt] at c ⊢; exact T.ltk_mono h c
theorem T.lts_mono {m n : Nat} (h : m ≤ n) : ∀ {ts : List T}, T.lts m ts = true → T.lts n ts = true
  | [], _ => rfl
  | t :: ts, c => by
    rw [T.lts, Bool.and_eq_true] at c ⊢
    exact ⟨T.lt_mono h c.1, T.lts_mono h c.2⟩
theorem T.ltk_mono {m n : Nat} (h : m ≤ n) : ∀ {ts : List (Key × T)}, T.ltk m ts = true → T.ltk n ts = true
  | [], _ => rfl
  | (k, t) :: ts, c => by
    rw [T.ltk, Bool.and_eq_true] at c ⊢
    exact ⟨T.lt_mono h c.1, T.ltk_mono h c.2⟩
end
theorem T.lts_all {n : Nat} : ∀ {ts : List T}, T.lts n ts = ts.all fun t => t.lt n
  | [] => rfl
  | t :: ts => by rw [T.lts, T.lts_all, List.all_cons]
@[simp] theorem lt_non {n : Nat} : T.lt n .non = true := id rfl
@[simp] theorem lt_bl {n : Nat} {b : Bool} : T.lt n (.bl b) = true := id rfl
@[simp] theorem lt_int {n : Nat} {b : Int} : T.lt n (.int b) = true := id rfl
@[simp] theorem lt_str {n : Nat} {b : Str} : T.lt n (.str b) = true := id rfl
@[simp] theorem lt_tup {n : Nat} {ts : List T} : T.lt n (.tup ts) = T.lts n ts := by rw [T.lt]
@[simp] theorem lt_lst {n : Nat} {ts : List T} : T.lt n (.lst ts) = T.lts n ts := by rw [T.lt]
@[simp] theorem lt_nlst {n : Nat} {ts : List T} : T.lt n (.nlst ts) = T.lts n ts := by rw [T.lt]
@[simp] theorem ltsN {n : Nat} : T.lts n [] = true := id rfl
@[simp] theorem ltsC {n : Nat} {t : T} {ts : List T} : T.lts n (t :: ts) = (t.lt n && T.lts n ts) := by rw [T.lts]
theorem ltsM {α : Type} {n : Nat} {f : α → T} {xs : List α} (h : ∀ x ∈ xs, (f x).lt n = true) : T.lts n (xs.map f) = true := by
  rw [T.lts_all, List.all_eq_true]
  intro t ht
  obtain ⟨x, hx, rfl⟩ := List.mem_map.mp ht
  exact h x hx

/-! ### a def's end -/
theorem CutOk.refl (S : Sto) : CutOk S S := ⟨Nat.le_refl _, fun i _ o h => .inl h⟩
theorem CutOk.app (S X : Sto) : CutOk S (S ++ X) := ⟨by simp, fun i hi o h => .inl (by rwa [List.getElem?_append_left hi] at h)⟩
theorem dFun_eq {np n : Nat} {b : DS} {ts : List T} {S : Sto} (h : ts.length = np) : dFun np n b ts S = gcR S (b (ts.map some ++ List.replicate (n - np) none) S) := by
  unfold dFun; rw [if_pos h]
theorem gcT_cut {S S' : Sto} {t : T} (c : CutOk S S') (h : t.lt S.length = true) : gcT S t S' = .ok t (S'.take S.length) := by
  unfold gcT; rw [if_pos c, if_pos h]
theorem gcT_app {S X : Sto} {t : T} (h : t.lt S.length = true) : gcT S t (S ++ X) = .ok t S := by
  rw [gcT_cut (CutOk.app S X) h]; simp
theorem gcT_same {S : Sto} {t : T} (h : t.lt S.length = true) : gcT S t S = .ok t S := by
  rw [gcT_cut (CutOk.refl S) h]; simp
theorem gcT_ref {S X : Sto} {k : Nat} {ts : List T} (hk : S.length ≤ k) (h : (S ++ X)[k]? = some (.lst ts)) (h2 : T.lts S.length ts = true) : gcT S (.ref k) (S ++ X) = .ok (.nlst ts) S := by
  unfold gcT
  rw [if_pos (CutOk.app S X), if_neg (by rw [T.lt]; simp; omega)]
  simp only [h]
  rw [if_pos h2]
  simp
@[simp] theorem gcR_rt {S S' : Sto} {t : T} : gcR S (.rt t S') = gcT S t S' := id rfl
@[simp] theorem gcR_nx {S S' : Sto} {sl : Sl} : gcR S (.nx sl S') = gcT S .non S' := id rfl

/-! ### comprehensions -/
theorem dLc_eq (i : DI) (g : DG) (dt : DB) (de : DE) (vs : List Nat) (sl : Sl) (S : Sto) {src : Option Nat} {ts : List T} {S1 : Sto} (h : i sl S = .ok src ts S1) : dLc i g dt de vs sl S = lcL src ts g dt de (wipeT sl vs) ts [] S1 := by
  unfold dLc; rw [h]
/-- nothing is changed -/
theorem lcL_map {α : Type} {src : Option Nat} {all : List T} {g : DG} {dt : DB} {de : DE} {slw : Sl} {S : Sto} (hS : Still src all S) (e : α → T) (p : α → Bool) (y : α → T) : ∀ (xs : List α) (acc : List T),
    (∀ x ∈ xs, ∃ sl1, g (e x) slw S = some (sl1, S) ∧ dt sl1 S = .ok (p x) S ∧ (p x = true → ∃ r, de sl1 S = .ok r S ∧ fz r = y x)) → acc.length + xs.length ≤ sizeLine →
    lcL src all g dt de slw (xs.map e) acc S = .ok (.nlst (acc ++ (xs.filter p).map y)) S
  | [], acc, _, _ => by rw [List.map_nil, lcL, if_pos hS]; simp
  | x :: xs, acc, h, hl => by
    obtain ⟨sl1, h1, h2, h3⟩ := h x List.mem_cons_self
    rw [List.map_cons, lcL, if_pos hS, h1]
    simp only [h2]
    have ht : ∀ z ∈ xs, _ := fun z hz => h z (List.mem_cons_of_mem _ hz)
    rw [List.length_cons] at hl
    cases hp : p x with
    | true =>
      obtain ⟨r, h4, h5⟩ := h3 hp
      simp only [h4]
      rw [if_pos (by omega), lcL_map hS e p y xs _ ht (by rw [List.length_append, List.length_singleton]; omega), List.filter_cons_of_pos hp, List.map_cons, h5]
      simp
    | false =>
      simp only
      rw [lcL_map hS e p y xs _ ht (by omega), List.filter_cons_of_neg (by rw [hp]; simp)]
/-- each item changes the store -/
theorem lcL_st {α : Type} {src : Option Nat} {all : List T} {g : DG} {dt : DB} {de : DE} {slw : Sl} (I : Sto → Prop) (hS : ∀ S, I S → Still src all S) (e : α → T) (R : α → T → Prop) : ∀ (xs : List α) (acc : List T) (S : Sto), I S →
    (∀ x ∈ xs, ∀ S, I S → ∃ sl1, g (e x) slw S = some (sl1, S) ∧ dt sl1 S = .ok true S ∧ ∃ r S', de sl1 S = .ok r S' ∧ I S' ∧ R x (fz r)) → acc.length + xs.length ≤ sizeLine →
    ∃ ys S', lcL src all g dt de slw (xs.map e) acc S = .ok (.nlst (acc ++ ys)) S' ∧ I S' ∧ ys.length = xs.length ∧ ∀ (i : Nat) x, xs[i]? = some x → ∃ z, ys[i]? = some z ∧ R x z
  | [], acc, S, hI, _, _ => ⟨[], S, by rw [List.map_nil, lcL, if_pos (hS S hI)]; simp, hI, rfl, fun i x h => by simp at h⟩
  | x :: xs, acc, S, hI, h, hl => by
    obtain ⟨sl1, h1, h2, r, S', h4, h5, h6⟩ := h x List.mem_cons_self S hI
    rw [List.length_cons] at hl
    obtain ⟨ys, S2, q1, q2, q3, q4⟩ := lcL_st I hS e R xs (acc ++ [fz r]) S' h5 (fun z hz => h z (List.mem_cons_of_mem _ hz)) (by rw [List.length_append, List.length_singleton]; omega)
    refine ⟨fz r :: ys, S2, ?_, q2, by rw [List.length_cons, List.length_cons, q3], fun i z hz => ?_⟩
    · rw [List.map_cons, lcL, if_pos (hS S hI), h1]
      simp only [h2, h4]
      rw [if_pos (by omega), q1]
      simp
    · cases i with
      | zero =>
        simp only [List.getElem?_cons_zero, Option.some.injEq] at hz
        subst hz
        exact ⟨_, rfl, h6⟩
      | succ i =>
        rw [List.getElem?_cons_succ] at hz ⊢
        exact q4 i z hz

/-! ### for, while -/
theorem dFor_eq (i : DI) (g : DG) (b : DS) (sl : Sl) (S : Sto) {src : Option Nat} {ts : List T} {S1 : Sto} (h : i sl S = .ok src ts S1) : dFor i g b sl S = forL src ts g b ts sl S1 := by
  unfold dFor; rw [h]
theorem forL_inv {α : Type} {src : Option Nat} {all : List T} {g : DG} {b : DS} (e : α → T) (I : List α → Sl → Sto → Prop) (hS : ∀ xs sl S, I xs sl S → Still src all S)
    (h : ∀ x xs sl S, I (x :: xs) sl S → ∃ sl1 S1 sl2 S2, g (e x) sl S = some (sl1, S1) ∧ (b sl1 S1 = .nx sl2 S2 ∨ b sl1 S1 = .ct sl2 S2) ∧ I xs sl2 S2) : ∀ (xs : List α) (sl : Sl) (S : Sto), I xs sl S → ∃ sl' S', forL src all g b (xs.map e) sl S = .nx sl' S' ∧ I [] sl' S'
  | [], sl, S, hI => ⟨sl, S, by rw [List.map_nil, forL, if_pos (hS _ _ _ hI)], hI⟩
  | x :: xs, sl, S, hI => by
    obtain ⟨sl1, S1, sl2, S2, h1, h2, h3⟩ := h x xs sl S hI
    obtain ⟨sl', S', q1, q2⟩ := forL_inv e I hS h xs sl2 S2 h3
    refine ⟨sl', S', ?_, q2⟩
    rw [List.map_cons, forL, if_pos (hS _ _ _ hI), h1]
    rcases h2 with h2 | h2 <;> (simp only [h2]; exact q1)
/-- .., or out of it by a return -/
theorem forL_ret {α : Type} {src : Option Nat} {all : List T} {g : DG} {b : DS} (e : α → T) (I : List α → Sl → Sto → Prop) (P : T → Sto → Prop) (hS : ∀ xs sl S, I xs sl S → Still src all S)
    (h : ∀ x xs sl S, I (x :: xs) sl S → ∃ sl1 S1, g (e x) sl S = some (sl1, S1) ∧ ((∃ sl2 S2, (b sl1 S1 = .nx sl2 S2 ∨ b sl1 S1 = .ct sl2 S2) ∧ I xs sl2 S2) ∨ ∃ t S2, b sl1 S1 = .rt t S2 ∧ P t S2)) : ∀ (xs : List α) (sl : Sl) (S : Sto), I xs sl S →
    (∃ sl' S', forL src all g b (xs.map e) sl S = .nx sl' S' ∧ I [] sl' S') ∨ ∃ t S', forL src all g b (xs.map e) sl S = .rt t S' ∧ P t S'
  | [], sl, S, hI => .inl ⟨sl, S, by rw [List.map_nil, forL, if_pos (hS _ _ _ hI)], hI⟩
  | x :: xs, sl, S, hI => by
    obtain ⟨sl1, S1, h1, h2⟩ := h x xs sl S hI
    rcases h2 with ⟨sl2, S2, h2, h3⟩ | ⟨t, S2, h2, h3⟩
    · have q := forL_ret e I P hS h xs sl2 S2 h3
      have e1 : forL src all g b ((x :: xs).map e) sl S = forL src all g b (xs.map e) sl2 S2 := by
        rw [List.map_cons, forL, if_pos (hS _ _ _ hI), h1]
        rcases h2 with h2 | h2 <;> simp only [h2]
      rw [e1]; exact q
    · refine .inr ⟨t, S2, ?_, h3⟩
      rw [List.map_cons, forL, if_pos (hS _ _ _ hI), h1]
      simp only [h2]
theorem while_inv {c : DB} {b : DS} (I : Nat → Sl → Sto → Prop) (P : Sl → Sto → Prop)
    (h : ∀ m sl S, I m sl S → (∃ S1 m' sl2 S2, c sl S = .ok true S1 ∧ m' < m ∧ (b sl S1 = .nx sl2 S2 ∨ b sl S1 = .ct sl2 S2) ∧ I m' sl2 S2) ∨ ∃ S1, c sl S = .ok false S1 ∧ P sl S1) : ∀ (n m : Nat) (sl : Sl) (S : Sto), I m sl S → m < n → ∃ sl' S', whileN c b n sl S = .nx sl' S' ∧ P sl' S'
  | 0, m, sl, S, _, hm => by omega
  | n + 1, m, sl, S, hI, hm => by
    rcases h m sl S hI with ⟨S1, m', sl2, S2, h1, h2, h3, h4⟩ | ⟨S1, h1, h2⟩
    · obtain ⟨sl', S', q1, q2⟩ := while_inv I P h n m' sl2 S2 h4 (by omega)
      refine ⟨sl', S', ?_, q2⟩
      rw [whileN, h1]
      simp only [RB.toS_ok, if_true]
      rcases h3 with h3 | h3 <;> (simp only [h3]; exact q1)
    · refine ⟨sl, S1, ?_, h2⟩
      rw [whileN, h1]
      simp
/-- .., or out of it by a return -/
theorem while_ret {c : DB} {b : DS} (I : Nat → Sl → Sto → Prop) (P : Sl → Sto → Prop) (R : T → Sto → Prop)
    (h : ∀ m sl S, I m sl S → (∃ S1, c sl S = .ok true S1 ∧ ((∃ m' sl2 S2, m' < m ∧ (b sl S1 = .nx sl2 S2 ∨ b sl S1 = .ct sl2 S2) ∧ I m' sl2 S2) ∨ ∃ t S2, b sl S1 = .rt t S2 ∧ R t S2)) ∨ ∃ S1, c sl S = .ok false S1 ∧ P sl S1) : ∀ (n m : Nat) (sl : Sl) (S : Sto), I m sl S → m < n →
      (∃ sl' S', whileN c b n sl S = .nx sl' S' ∧ P sl' S') ∨ ∃ t S', whileN c b n sl S = .rt t S' ∧ R t S'
  | 0, m, sl, S, _, hm => by omega
  | n + 1, m, sl, S, hI, hm => by
    rcases h m sl S hI with ⟨S1, h1, ⟨m', sl2, S2, h2, h3, h4⟩ | ⟨t, S2, h2, h3⟩⟩ | ⟨S1, h1, h2⟩
    · have e1 : whileN c b (n + 1) sl S = whileN c b n sl2 S2 := by
        rw [whileN, h1]
        simp only [RB.toS_ok, if_true]
        rcases h3 with h3 | h3 <;> simp only [h3]
      rw [e1]
      exact while_ret I P R h n m' sl2 S2 h4 (by omega)
    · refine .inr ⟨t, S2, ?_, h3⟩
      rw [whileN, h1]
      simp only [RB.toS_ok, if_true, h2]
    · refine .inl ⟨sl, S1, ?_, h2⟩
      rw [whileN, h1]
      simp
theorem dWhile_eq (c : DB) (b : DS) (sl : Sl) (S : Sto) : dWhile c b sl S = whileN c b FUEL sl S := rfl

/-! ### sources -/
theorem dIt_eq {d : DE} {sl : Sl} {S S1 : Sto} {t : T} (h : d sl S = .ok t S1) {src : Option Nat} {ts : List T} (h2 : itOf S1 (fz t) = some (src, ts)) : dIt d sl S = .ok src ts S1 := by
  unfold dIt; rw [h]; simp only [h2]
theorem dRng1_eq {d : DA} {sl : Sl} {S S1 : Sto} {n : Nat} (h : d sl S = .ok [.int n] S1) (hn : n ≤ 2 ^ 60) : dRng1 d sl S = .ok none ((List.range n).map fun k => T.int (k : Nat)) S1 := by
  unfold dRng1; rw [h]
  simp only
  rw [if_pos (by omega)]
  unfold upto
  simp
@[simp] theorem still_none {ts : List T} {S : Sto} : Still none ts S := trivial

/-! ### more readings -/
section
variable {t v : T} {S : Sto} {sl : Sl} {ts : List T} {i : Int} {k : Nat}
@[simp] theorem RE.m_int : (RE.ok (.int i) S).m = .ok (.int i) S := id rfl
@[simp] theorem RE.m_ref : (RE.ok (.ref k) S).m = .ok (.ref k) S := id rfl
@[simp] theorem fNeg_int : fNeg (.int i) S = .ok (.int (-i)) S := id rfl
def RE.g (r : RE) (f : T → Sto → Option (Sl × Sto)) : Option (Sl × Sto) := match r with
  | .ok t S => f t S
  | _ => none
@[simp] theorem RE.g_ok (f : T → Sto → Option (Sl × Sto)) : (RE.ok t S).g f = f t S := id rfl
def putR (o : Option Sto) (sl : Sl) : Option (Sl × Sto) := match o with
  | some S3 => some (sl, S3)
  | none => none
@[simp] theorem putR_some : putR (some S) sl = some (sl, S) := id rfl
@[simp] theorem gSubD_eq (d1 d2 : DE) : gSubD d1 d2 t sl S = (d1 sl S).g fun o S1 => (d2 sl S1).g fun j S2 => putR (dput S2 (fz o) (fz j) t) sl := by
  unfold gSubD RE.g putR
  cases d1 sl S with
  | ok o S1 =>
    simp only <;> (cases d2 sl S1 with
    | ok j S2 => simp only <;> (cases dput S2 (fz o) (fz j) t <;> rfl)
    | _ => rfl)
  | _ => rfl
theorem atI_n {α : Type} {xs : List α} {n : Nat} : atI xs (n : Int) = xs[n]? := by
  unfold atI ixN
  rw [if_pos (by omega)]
  by_cases h : n < xs.length
  · rw [if_pos (by omega)]; simp
  · rw [if_neg (by omega)]; simp; omega
@[simp] theorem atI_0 {α : Type} {xs : List α} : atI xs 0 = xs[0]? := atI_n (n := 0)
@[simp] theorem atI_1 {α : Type} {xs : List α} : atI xs 1 = xs[1]? := atI_n (n := 1)
@[simp] theorem atI_2 {α : Type} {xs : List α} : atI xs 2 = xs[2]? := atI_n (n := 2)
@[simp] theorem atI_3 {α : Type} {xs : List α} : atI xs 3 = xs[3]? := atI_n (n := 3)
@[simp] theorem atI_4 {α : Type} {xs : List α} : atI xs 4 = xs[4]? := atI_n (n := 4)
@[simp] theorem atI_m1 {α : Type} {xs : List α} : atI xs (-1) = xs.getLast? := by
  unfold atI ixN
  rw [if_neg (by omega)]
  cases xs with
  | nil => rfl
  | cons x xs =>
    rw [if_pos (by rw [List.length_cons]; omega)]
    have : ((-1 : Int) + ((x :: xs).length : Nat)).toNat = (x :: xs).length - 1 := by omega
    simp only [Option.bind_some, this]
    rw [List.getLast?_eq_getElem?]
theorem ixN_nat {n m : Nat} (h : m < n) : ixN n (m : Int) = some m := by
  unfold ixN
  rw [if_pos (by omega), if_pos (by omega)]; simp
theorem ixN_m1 {n : Nat} (h : 0 < n) : ixN n (-1) = some (n - 1) := by
  unfold ixN
  rw [if_neg (by omega), if_pos (by omega)]
  congr 1; omega
theorem dput_ref {j : Nat} (h : S[k]? = some (.lst ts)) (hj : ixN ts.length i = some j) : dput S (.ref k) (.int i) v = some (S.set k (.lst (ts.set j v))) := by
  unfold dput
  simp only [h, hj]
theorem dput_r0 {t0 : T} (h : S[k]? = some (.lst (t0 :: ts))) : dput S (.ref k) (.int 0) v = some (S.set k (.lst (v :: ts))) := dput_ref (i := 0) (j := 0) h (ixN_nat (m := 0) (by simp))
theorem dput_rm1 {t0 : T} (h : S[k]? = some (.lst (ts ++ [t0]))) : dput S (.ref k) (.int (-1)) v = some (S.set k (.lst (ts ++ [v]))) := by
  rw [dput_ref h (ixN_m1 (by simp))]
  simp
theorem fPop_ref (h : S[k]? = some (.lst ts)) (ht : ts.getLast? = some t) : fPop (.ref k) [] S = .ok t (S.set k (.lst ts.dropLast)) := by
  unfold fPop
  rw [List.getLast?_eq_getElem?] at ht
  simp only [h, ht]
end
@[simp] theorem szv : sizeLine = 16777216 := by
  have h := PySem.sizeLine_eq
  generalize sizeLine = z at h ⊢
  omega

/-! ### the store's last list -/
section
variable {S : Sto} {acc ts : List T} {o o' : MO} {y t : T} {i : Int}
@[simp] theorem top_get : (S ++ [o])[S.length]? = some o := by simp
@[simp] theorem top_set : List.set (S ++ [o]) S.length o' = S ++ [o'] := by simp
@[simp] theorem mTy_top : mTy (S ++ [.lst acc]) (.ref S.length) = some "list" := mTy_ref top_get
@[simp] theorem fAppend_top : fAppend (.ref S.length) [y] (S ++ [.lst acc]) = if acc.length < sizeLine then .ok .non (S ++ [.lst (acc ++ [y])]) else .bad := by rw [fAppend_ref top_get, top_set]
@[simp] theorem fTuple_top : fTuple [.ref S.length] (S ++ [.lst acc]) = .ok (.tup acc) (S ++ [.lst acc]) := fTuple_ref top_get
@[simp] theorem fLen_top : fLen [.ref S.length] (S ++ [.lst acc]) = .ok (.int acc.length) (S ++ [.lst acc]) := fLen_ref top_get
@[simp] theorem fIx_top : fIx (.ref S.length) (.int i) (S ++ [.lst acc]) = ixR (atI acc i) (S ++ [.lst acc]) := fIx_ref top_get
@[simp] theorem lstOf_top : lstOf (S ++ [.lst acc]) (.ref S.length) = some acc := lstOf_ref top_get
@[simp] theorem seqOf_top : seqOf (S ++ [.lst acc]) (.ref S.length) = some acc := seqOf_ref top_get
@[simp] theorem fPop_top : fPop (.ref S.length) [] (S ++ [.lst (acc ++ [t])]) = .ok t (S ++ [.lst acc]) := by
  rw [fPop_ref top_get (t := t) (by simp), top_set]
  simp
theorem gcT_top (h : T.lts S.length acc = true) : gcT S (.ref S.length) (S ++ [.lst acc]) = .ok (.nlst acc) S := gcT_ref (Nat.le_refl _) top_get h
/-- a loop that makes the last list longer -/
theorem for_app {α : Type} {src : Option Nat} {all : List T} {g : DG} {b : DS} (e : α → T) (f : α → List T) (P : Sl → Prop) (m N : Nat) (hS : ∀ a, Still src all (S ++ [.lst a])) : ∀ (xs : List α) (acc : List T) (sl : Sl), (∀ x ∈ xs, (f x).length ≤ m) →
    (∀ x ∈ xs, ∀ acc sl, P sl → acc.length ≤ N → ∃ sl1 S1 sl2, g (e x) sl (S ++ [.lst acc]) = some (sl1, S1) ∧ (b sl1 S1 = .nx sl2 (S ++ [.lst (acc ++ f x)]) ∨ b sl1 S1 = .ct sl2 (S ++ [.lst (acc ++ f x)])) ∧ P sl2) → acc.length + xs.length * m ≤ N → P sl →
    ∃ sl', forL src all g b (xs.map e) sl (S ++ [.lst acc]) = .nx sl' (S ++ [.lst (acc ++ xs.flatMap f)]) ∧ P sl'
  | [], acc, sl, _, _, _, hP => ⟨sl, by rw [List.map_nil, forL, if_pos (hS _)]; simp, hP⟩
  | x :: xs, acc, sl, hm, h, hl, hP => by
    rw [List.length_cons, Nat.succ_mul] at hl
    have hx := hm x List.mem_cons_self
    obtain ⟨sl1, S1, sl2, h1, h2, h3⟩ := h x List.mem_cons_self acc sl hP (by omega)
    obtain ⟨sl', q1, q2⟩ := for_app e f P m N hS xs (acc ++ f x) sl2 (fun z hz => hm z (List.mem_cons_of_mem _ hz)) (fun z hz => h z (List.mem_cons_of_mem _ hz)) (by rw [List.length_append]; omega) h3
    refine ⟨sl', ?_, q2⟩
    rw [List.map_cons, forL, if_pos (hS _), h1]
    rw [List.flatMap_cons, ← List.append_assoc, ← q1]
    rcases h2 with h2 | h2 <;> simp only [h2]
/-- a loop that changes a name's value only -/
theorem for_set {α β : Type} {src : Option Nat} {all : List T} {g : DG} {b : DS} {S : Sto} (e : α → T) (hS : Still src all S) (P : List α → Sl → Prop) (h : ∀ x xs sl, P (x :: xs) sl → ∃ sl1 S1 sl2, g (e x) sl S = some (sl1, S1) ∧ (b sl1 S1 = .nx sl2 S ∨ b sl1 S1 = .ct sl2 S) ∧ P xs sl2) : ∀ (xs : List α) (sl : Sl), P xs sl → ∃ sl', forL src all g b (xs.map e) sl S = .nx sl' S ∧ P [] sl'
  | [], sl, hP => ⟨sl, by rw [List.map_nil, forL, if_pos hS], hP⟩
  | x :: xs, sl, hP => by
    obtain ⟨sl1, S1, sl2, h1, h2, h3⟩ := h x xs sl hP
    obtain ⟨sl', q1, q2⟩ := for_set (β := β) e hS P h xs sl2 h3
    refine ⟨sl', ?_, q2⟩
    rw [List.map_cons, forL, if_pos hS, h1]
    rcases h2 with h2 | h2 <;> (simp only [h2]; exact q1)
end
end Dn

/-! except suites -/
namespace Dn
open PySem PySem.Spec L2
/-- the context of an except suite that holds the exception of pin p -/
abbrev DX.suite (X : Cx) (p : Pin) (oe : Obj) (pn : List (Addr × Obj)) : DX := ⟨X.suite p.a ((p.a, oe) :: pn), some p⟩
/-- e.f in the suite: the slot not written since -/
def dPin (i : Nat) (fs : Flds) (f : Str) : DE := fun sl S => match sl[i]? with
  | some none => match fs.lookup f with
    | some t => .ok t S
    | none => .bad
  | _ => .bad
theorem lookup_rep {K : PySem.W.Frag} {w : World} {H : Hp} {ρ av : List Addr} {f : Str} {t : T} : ∀ {vs : List (Str × V)} {fs : Flds}, RepKd K w H ρ av vs fs → fs.lookup f = some t → ∃ v, vs.lookup f = some v ∧ RepV K w H ρ av v t := by
  intro vs fs r
  induction r with
  | nil => intro h; cases h
  | cons h r ih =>
    rename_i p q vs fs
    obtain ⟨k, v⟩ := p
    obtain ⟨k', t'⟩ := q
    obtain ⟨e, rv⟩ := h
    simp only at e rv
    subst e
    intro h
    simp only [List.lookup] at h ⊢
    split at h
    · cases h; exact ⟨v, rfl, rv⟩
    · exact ih h
section
variable {X : Cx} {p : Pin} {oe : Obj} {pn : List (Addr × Obj)} {W : WX}
theorem le_pin {C : Addr} {e : Expr} {f : Str} {pos : Pos} {i : Nat} (hpi : p.i = i) (T : XfC X.K C) (hno : PySem.W.findIn X.K (.ref C) f = some none) (hz : Zc (.ref C) (some p.d) oe) (hf : ∃ us, oe.data = .fields us)
    (he : PE (X.suite p.a ((p.a, oe) :: pn)) e (tVar i)) (hb : attributeBase e f X.env (eval e X.env) = eval e X.env := by rfl) : LE (DX.suite X p oe pn) W (.Attribute e f pos) (dPin i p.fs f) := by
  subst hpi
  exact (pe_xf (cls := .ref C) (d := some p.d) T hno hz hf he hb).imp fun σ H Q ⟨ρ, av, sl, S, hs, hh, g⟩ => by
    unfold dPin at g
    obtain ⟨h1, h2, h3, h4, h5⟩ := hh.pin p rfl
    split at g
    · rename_i q1
      split at g
      · rename_i t q2
        obtain ⟨v, hv, rv⟩ := lookup_rep h4 q2
        exact ⟨.ref p.a, h5 q1, rfl, rfl, p.d, p.vs, v, rfl, h1, hv, g.now hs rv⟩
      · exact g.elim
    · exact g.elim
end
end Dn

/-! try with clauses of both kinds: with a name, without one -/
namespace Dn
open PySem PySem.Spec PyProof.Rows L2
abbrev Cl := Value × Option Nat × (Addr → Value → Option Addr → TS)
/-- a suite's ends, the clause's name being taken away behind it -/
def wiped (i : Nat) (D : Ends) : Ends := { nx := fun τ G => D.nx (τ.set i none) G, rt := D.rt, bk := fun τ G => D.bk (τ.set i none) G, ct := fun τ G => D.ct (τ.set i none) G }
def clW (o : Option Nat) (ts : Addr → Value → Option Addr → TS) (D : Ends) (cls : Value) (d : Option Addr) (σ : L2.St) (H : Hp) (a : Addr) : Prop := match o with
  | none => ts a cls d D σ H
  | some i => ts a cls d (wiped i D) (σ.set i (some (.ref a))) H
def wMix (K : PySem.W.Frag) (W : WX) (D : Ends) : List Cl → WX
  | [] => W
  | p :: r => fun cls d σ H => ∃ b, PySem.W.exmOne K cls p.1 = some b ∧ (b = true → ∀ a, H a = none → clW p.2.1 p.2.2 D cls d σ H a) ∧ (b = false → wMix K W D r cls d σ H)
def SuOk (X : Cx) (suite : List Stmt) (ts : Addr → Value → Option Addr → TS) : Prop :=
  ∀ (a : Addr) (ob : Obj) (cls : Value) (d : Option Addr) (ps : List (Addr × Obj)), L2N.Zn cls d ob → (∃ us, ob.data = .fields us) → PSs (X.suite a ((a, ob) :: ps)) suite (ts a cls d)
inductive HdsMix (X : Cx) : List ExceptHandler → List Cl → Prop
  | nil : HdsMix X [] []
  | one {x : Str} {c : Value} {ts : Addr → Value → Option Addr → TS} {b0 : Stmt} {bs : List Stmt} {p1 p2 : Pos} {hs : List ExceptHandler} {l : List Cl} (hc : Names X x c) (h : SuOk X (b0 :: bs) ts) (r : HdsMix X hs l) :
      HdsMix X (.ExceptHandler (some (.Name x p1)) none (b0 :: bs) p2 :: hs) ((c, none, ts) :: l)
  | as_ {x n : Str} {i : Nat} {c : Value} {ts : Addr → Value → Option Addr → TS} {b0 : Stmt} {bs : List Stmt} {p1 p2 : Pos} {hs : List ExceptHandler} {l : List Cl} (hc : Names X x c) (hi : X.N[i]? = some n) (hl : X.env.kindOf n = some .local)
      (h : SuOk X (b0 :: bs) ts) (r : HdsMix X hs l) : HdsMix X (.ExceptHandler (some (.Name x p1)) (some n) (b0 :: bs) p2 :: hs) ((c, some i, ts) :: l)
section
variable {X : Cx} {pins : List (Addr × Obj)} {τ : L2.St} {G : Hp} {s : Shared} {a : Addr} {B : Heap}
/-- the clause's class is found where the exception is handled -/
theorem names_at {x : Str} {c : Value} {ob : Obj} {ps : List (Addr × Obj)} {p1 : Pos} {R : Value → Shared → Prop} {F : Value → Shared → Prop} (I : Inv (X.suite a ((a, ob) :: ps)) [] τ G s) (hc : Names X x c) (r : R c s) :
    wpAny (model X.prog X.w) (X.A.mark (some (.ref a))) (eval (.Name x p1) X.env) R F s := by
  obtain ⟨g1, g2, g3⟩ := hc
  rcases g3 with g3 | ⟨g3, g4, g5⟩
  · exact ld_glob (X := X.suite a ((a, ob) :: ps)) I g1 g3 r g2
  · exact ld_blt (X := X.suite a ((a, ob) :: ps)) I g1 g3 g4 r g5 g2
/-- an exception on the ground is no frame -/
theorem no_frame {ob : Obj} {us : Array Value} {hp : Heap} (hf : X.env.frame = some X.env.locals) (ff : hp.FunFrames B (X.env :: X.outer)) (e : hp.get? a = some ob) (dd : ob.data = .fields us) : a ≠ X.env.locals ∧ a ∉ X.fs := by
  have no : a ∉ frs (X.env :: X.outer) := fun m => by
    obtain ⟨_, o2, e2, n2⟩ := ff.mem m
    have : ob = o2 := Option.some.inj (e.symm.trans e2)
    subst this
    exact n2 _ dd
  refine ⟨fun z => no (List.mem_filterMap.mpr ⟨_, List.mem_cons_self, hf.trans (by rw [z])⟩), fun m => ?_⟩
  obtain ⟨f, m1, m2⟩ := List.mem_filterMap.mp m
  exact no (List.mem_filterMap.mpr ⟨f, List.mem_cons_of_mem _ m1, m2⟩)
theorem sp_unsuite {D : Ends} {ob : Obj} {fl : Flow} {s6 : Shared} (ok : X.Ok) (q : SP (X.suite a ((a, ob) :: (X.pn ++ pins))) [] D fl s6) : SP X pins D fl s6 := by
  cases fl with
  | ret u => obtain ⟨v, τ6, G6, J, r, q⟩ := q; exact ⟨v, τ6, G6, J.unsuite ok, r, q⟩
  | next => obtain ⟨τ6, G6, J, q⟩ := q; exact ⟨τ6, G6, J.unsuite ok, q⟩
  | brk => obtain ⟨τ6, G6, J, q⟩ := q; exact ⟨τ6, G6, J.unsuite ok, q⟩
  | cont => obtain ⟨τ6, G6, J, q⟩ := q; exact ⟨τ6, G6, J.unsuite ok, q⟩
theorem sp_ofTry {D : Ends} {xe : Value → Shared → Prop} {fl : Flow} {s6 : Shared} (ok : X.Ok) (q : SP (X.tr (X.pn ++ pins) xe) [] D fl s6) : SP X pins D fl s6 := by
  cases fl with
  | ret u => obtain ⟨v, τ6, G6, J, r, q⟩ := q; exact ⟨v, τ6, G6, J.ofTry ok, r, q⟩
  | next => obtain ⟨τ6, G6, J, q⟩ := q; exact ⟨τ6, G6, J.ofTry ok, q⟩
  | brk => obtain ⟨τ6, G6, J, q⟩ := q; exact ⟨τ6, G6, J.ofTry ok, q⟩
  | cont => obtain ⟨τ6, G6, J, q⟩ := q; exact ⟨τ6, G6, J.ofTry ok, q⟩
end
section
variable {X : Cx} {body : List Stmt} {h0 : ExceptHandler} {hds : List ExceptHandler} {l : List Cl} {pos : Pos} {tb : WX → TS} {W : WX}
theorem ps_try_mix (st : X.stack = X.env :: X.outer) (hf : X.env.frame = some X.env.locals) (hN : X.N.Nodup) (tk : L2N.Takes X W)
    (hb : ∀ (V : WX) (ps : List (Addr × Obj)) (xe : Value → Shared → Prop), L2N.Takes (X.tr ps xe) V → PassesOwn (model X.prog X.w) X.A X.env xe → PSs (X.tr ps xe) body (tb V))
    (hm : HdsMix X (h0 :: hds) l) : PS X (.Try body (h0 :: hds) [] [] pos) (fun D σ H => tb (wMix X.K W D l) D σ H) := ⟨fun pins s σ H D I h => by
  have ok := I.ok
  have fr : X.A.frames = some (X.env :: X.outer) := ok.frames.trans (by rw [st])
  let back : Value → Shared → Prop := fun e s2 => wpAny (model X.prog X.w) X.A (noteFrame e X.env) (fun _ s3 => wpAny (model X.prog X.w) X.A (setFlight e none) (fun _ s4 => wpAny (model X.prog X.w) X.A (handleBy e X.env (h0 :: hds)) (SP X pins D) X.xe s4) X.xe s3) X.xe s2
  have taken : L2N.Takes (X.tr (X.pn ++ pins) back) (wMix X.K W D l) := fun u s2 xx => by
    obtain ⟨a, B, sI, pins2, τ, G, cls, d, rfl, J2, nb, up, sky, na, os, ag, w⟩ := xx
    have J : Inv X pins τ G sI := J2.ofTry ok
    rw [show (X.tr (X.pn ++ pins) back).stack = X.env :: X.outer from st] at sky
    refine L2N.Sky.land L2N.Zn.steady fr hf sky fun h3 fl3 up3 => ?_
    have J3 : Inv X pins τ G { s2 with heap := h3 } := J.landed nb fl3.1 (up.trans up3) os ag
    obtain ⟨o3, us3, e3, z3, d3⟩ := fl3.there
    have nn := no_frame (X := X) hf fl3.2.2.1 e3 d3
    have S3 := J3.suite e3 d3 na nn.1 nn.2
    have LT : PySem.W.Looks (model X.prog X.w) h3 (typeOf (.ref a)) cls := fun A Q E s k q => wpAny_typeOf_ref (k _ _ e3) (by rw [z3.1]; exact q)
    have walk : ∀ {hs : List ExceptHandler} {m : List Cl}, HdsMix X hs m → wMix X.K W D m cls d τ G → wpAny (model X.prog X.w) X.A (handleBy (.ref a) X.env hs) (SP X pins D) X.xe { s2 with heap := h3 } := by
      intro hs m k
      induction k with
      | nil =>
        intro w
        obtain ⟨_, _, _, o5, us5, tb5, _, _, e5, _, d5, f5, _⟩ := id fl3
        refine wpAny_handleBy_nil ?_
        unfold PySem.passOn
        refine wpAny_bind (wpAny_field e5 d5 f5 ?_)
        rw [if_neg (by simp : ¬ ((Value.ref tb5 == Value.none) = true))]
        have out : wpAny (model X.prog X.w) X.A (setFlight (.ref a) X.env.frame) (fun _ s5 => wpAny (model X.prog X.w) X.A (throw (.ref a) : Sem Flow) (SP X pins D) X.xe s5) X.xe { s2 with heap := h3 } := by
          rw [hf]
          exact HandSPX.setFlight_upZ fl3 fun h6 held up6 => wpAny_throw (tk _ _ ⟨a, B, sI, pins, τ, G, cls, d, rfl, J, nb, (up.trans up3).trans up6, .inr (.inr (by rw [st]; exact held)), na, os, ag, w⟩)
        first
          | exact wpAny_bind out
          | exact wpAny_bind (wpAny_pure (wpAny_bind out))
      | @one x c ts b0 bs p1 p2 hs2 l2 hc hsu _ ih =>
        intro ⟨b, e, yes, no⟩
        refine wpAny_handleBy_cons (codeAny_handlers_test (names_at S3 hc ((PySem.W.exm_one (M := model X.prog X.w) J3.kIn LT e).here ?_))) (fun q => nomatch q)
        cases b with
        | false => exact ih (no rfl)
        | true =>
          refine codeAny_handlers_suite (HandSPX.lands_againZ fl3 fun h4 fl4 up4 => ?_)
          have J4 : Inv X pins τ G { s2 with heap := h4 } := J.landed nb fl4.1 ((up.trans up3).trans up4) os ag
          obtain ⟨o4, us4, e4, z4, d4⟩ := fl4.there
          exact wpAny_mono ((hsu a o4 cls d (X.pn ++ pins) z4 ⟨_, d4⟩).run [] _ _ G _ (J4.suite e4 d4 na nn.1 nn.2) (yes rfl a na)) (fun fl s6 q => sp_unsuite ok q) fun _ _ z => z.elim
      | @as_ x n i c ts b0 bs p1 p2 hs2 l2 hc hi hl hsu _ ih =>
        intro ⟨b, e, yes, no⟩
        refine wpAny_handleBy_cons (codeAny_handlers_test (names_at S3 hc ((PySem.W.exm_one (M := model X.prog X.w) J3.kIn LT e).here ?_))) (fun q => nomatch q)
        cases b with
        | false => exact ih (no rfl)
        | true =>
          refine codeAny_handlers_suite_as (HandSPX.lands_againZ fl3 fun h4 fl4 up4 => ?_)
          have J4 : Inv X pins τ G { s2 with heap := h4 } := J.landed nb fl4.1 ((up.trans up3).trans up4) os ag
          obtain ⟨o4, us4, e4, z4, d4⟩ := fl4.there
          refine store_ok (X := X.suite a ((a, o4) :: (X.pn ++ pins))) (v := .ref a) (J4.suite e4 d4 na nn.1 nn.2) hN hi (.inl hl) rfl (fun s5 S5 => ?_) (.inr hl)
          refine wpAny_mono ((hsu a o4 cls d (X.pn ++ pins) z4 ⟨_, d4⟩).run [] s5 _ G _ S5 (yes rfl a na)) (fun fl s6 q => ?_) fun _ _ z => z.elim
          have q2 : SP X pins (wiped i D) fl s6 := sp_unsuite ok q
          cases fl with
          | ret u => obtain ⟨v, τ6, G6, J6, r6, q6⟩ := q2; exact gone_ok J6 hN hi hl fun s7 J7 => ⟨v, _, G6, J7, r6, q6⟩
          | next => obtain ⟨τ6, G6, J6, q6⟩ := q2; exact gone_ok J6 hN hi hl fun s7 J7 => ⟨_, G6, J7, q6⟩
          | brk => obtain ⟨τ6, G6, J6, q6⟩ := q2; exact gone_ok J6 hN hi hl fun s7 J7 => ⟨_, G6, J7, q6⟩
          | cont => obtain ⟨τ6, G6, J6, q6⟩ := q2; exact gone_ok J6 hN hi hl fun s7 J7 => ⟨_, G6, J7, q6⟩
    exact walk hm w
  refine wpAny_Try_except (wpAny_mono ((hb (wMix X.K W D l) (X.pn ++ pins) back taken PassesOwn.looking).run [] s σ H D (I.toTry _) h) (fun fl s1 q => ?_) fun e s1 q => q)
  have q2 : SP X pins D fl s1 := sp_ofTry ok q
  cases fl with
  | next => exact wpAny_execs_nil q2
  | ret u => exact q2
  | brk => exact q2
  | cont => exact q2⟩
end
end Dn

/-! the reading of try -/
namespace Dn
open PySem PySem.Spec PyProof.Rows L2
abbrev WNo : WX := fun _ _ _ _ => False
def un (o : Option Nat) (sl : Sl) : Sl := match o with
  | none => sl
  | some i => sl.set i none
/-- a suite's result, seen from outside -/
def RS.inSuite (o : Option Nat) : RS → RS
  | .nx sl S => .nx (un o sl) S
  | .bk sl S => .bk (un o sl) S
  | .ct sl S => .ct (un o sl) S
  | .rt t S => .rt t S
  | _ => .bad
/-- a clause: its name's slot, the classes that it takes, its suite -/
abbrev ClD := Option Nat × List (Str × Bool) × (Str → Flds → DS)
def dCls (c : Str) (fs : Flds) (sl : Sl) (S : Sto) : List ClD → RS
  | [] => .exc c fs sl S
  | p :: r => match p.2.1.lookup c with
    | some true => (p.2.2 c fs (un p.1 sl) S).inSuite p.1
    | some false => dCls c fs sl S r
    | none => .bad
def dTry (d : DS) (l : List ClD) : DS := fun sl S => match d sl S with
  | .exc c fs sl1 S1 => dCls c fs sl1 S1 l
  | r => r
/-- the classes at hand, as a clause's class takes them or not; the fields fs can be read of those taken -/
def HdX (K : PySem.W.Frag) (mg : Str → Option Value) (x : Str) (m : List (Str × Bool)) (fs : List Str) : Prop :=
  ∃ c, mg x = some c ∧ ∀ k b C, m.lookup k = some b → mg k = some (.ref C) → PySem.W.exmOne K (.ref C) c = some b ∧ (b = true → XfC K C ∧ ∀ f ∈ fs, PySem.W.findIn K (.ref C) f = some none)
inductive HdsD (X : Cx) : List ExceptHandler → List ClD → Prop
  | nil : HdsD X [] []
  | one {x : Str} {flds : List Str} {m : List (Str × Bool)} {su : Str → Flds → DS} {b0 : Stmt} {bs : List Stmt} {p1 p2 : Pos} {hs : List ExceptHandler} {l : List ClD} (hg : Gl X x) (hdb : (x == ("__debug__" : Str)) = false) (hx : HdX X.K X.mg x m flds)
      (h : ∀ (k : Str) (fs : Flds) (C a d : Addr) (ob : Obj) (ps : List (Addr × Obj)), X.mg k = some (.ref C) → L2N.Zn (.ref C) (some d) ob → (∃ us, ob.data = .fields us) → LSs ⟨X.suite a ((a, ob) :: ps), none⟩ WNo (b0 :: bs) (su k fs))
      (r : HdsD X hs l) : HdsD X (.ExceptHandler (some (.Name x p1)) none (b0 :: bs) p2 :: hs) ((none, m, su) :: l)
  | as_ {x n : Str} {i : Nat} {flds : List Str} {m : List (Str × Bool)} {su : Str → Flds → DS} {b0 : Stmt} {bs : List Stmt} {p1 p2 : Pos} {hs : List ExceptHandler} {l : List ClD} (hg : Gl X x) (hdb : (x == ("__debug__" : Str)) = false) (hx : HdX X.K X.mg x m flds) (hi : X.N[i]? = some n) (hl : X.env.kindOf n = some .local)
      (h : ∀ (p : Pin) (C : Addr) (ob : Obj) (ps : List (Addr × Obj)), p.i = i → m.lookup p.c = some true → X.mg p.c = some (.ref C) → XfC X.K C → (∀ f ∈ flds, PySem.W.findIn X.K (.ref C) f = some none) → Zc (.ref C) (some p.d) ob → L2N.Zn (.ref C) (some p.d) ob → (∃ us, ob.data = .fields us) → LSs (DX.suite X p ob ps) WNo (b0 :: bs) (su p.c p.fs))
      (r : HdsD X hs l) : HdsD X (.ExceptHandler (some (.Name x p1)) (some n) (b0 :: bs) p2 :: hs) ((some i, m, su) :: l)
section
variable {K : PySem.W.Frag} {w : World} {H : Hp} {ρ av : List Addr}
theorem RepE.unpin {pn : Option Pin} {σ : L2.St} {sl : Sl} (i : Nat) (h : RepE K w pn H ρ av σ sl) : RepE K w none H ρ av (σ.set i none) (sl.set i none) := by
  refine ⟨by simp [h.len], fun j t e => ?_, fun _ z => nomatch z⟩
  by_cases q : i = j
  · subst q
    by_cases z : i < sl.length
    · rw [List.getElem?_set_self z] at e; cases e
    · rw [List.getElem?_eq_none (by simpa using z)] at e; cases e
  · rw [List.getElem?_set_ne q] at e
    obtain ⟨v, h1, h2⟩ := h.at_ j t e
    exact ⟨v, by rw [List.getElem?_set_ne q]; exact h1, h2⟩
theorem RepE.topin {σ : L2.St} {sl : Sl} {p : Pin} (h : RepE K w none H ρ av σ sl) (h1 : H p.d = some (.xd p.vs)) (h2 : p.d ∉ ρ) (h3 : p.d ∉ av) (h4 : RepKd K w H ρ av p.vs p.fs) : RepE K w (some p) H ρ av (σ.set p.i (some (.ref p.a))) (sl.set p.i none) := by
  refine ⟨by simp [h.len], fun j t e => ?_, fun q e => ?_⟩
  · by_cases q : p.i = j
    · subst q
      by_cases z : p.i < sl.length
      · rw [List.getElem?_set_self z] at e; cases e
      · rw [List.getElem?_eq_none (by simpa using z)] at e; cases e
    · rw [List.getElem?_set_ne q] at e
      obtain ⟨v, k1, k2⟩ := h.at_ j t e
      exact ⟨v, by rw [List.getElem?_set_ne q]; exact k1, k2⟩
  · cases e
    refine ⟨h1, h2, h3, h4, fun e => ?_⟩
    by_cases z : p.i < sl.length
    · exact List.getElem?_set_self (by rw [h.len]; exact z)
    · rw [List.getElem?_eq_none (by simpa using z)] at e; cases e
end
section
variable {X : Cx} {W : WX}
def Tells (X : Cx) (W : WX) (l : List ClD) (m : List Cl) : Prop := ∀ (σ : L2.St) (H : Hp) (ρ av : List Addr) (sl : Sl) (S : Sto) (D : Ends) (c : Str) (fs : Flds) (cls : Value) (dd : Option Addr), RepS X.K X.w H ρ av S → RepE X.K X.w none H ρ av σ sl →
  RepX X.K X.w H ρ av X.mg cls dd c fs → GoodS ⟨X, none⟩ W H ρ av σ.length D (dCls c fs sl S l) → wMix X.K W D m cls dd σ H
theorem HdsD.mix {hs : List ExceptHandler} {l : List ClD} (h : HdsD X hs l) : ∃ m, HdsMix X hs m ∧ Tells X W l m := by
  induction h with
  | nil =>
    refine ⟨[], .nil, fun σ H ρ av sl S D c fs cls dd hs he hx g => ?_⟩
    exact g cls dd σ H ρ (Ext.refl _ _) hs he rfl hx
  | @one x flds m su b0 bs p1 p2 hs2 l2 hg hdb hx0 h _ ih =>
    obtain ⟨m2, k1, k2⟩ := ih
    obtain ⟨c, hc0, hm⟩ := hx0
    have hc : Names X x c := ⟨hg, hdb, .inl hc0⟩
    refine ⟨(c, none, fun a cls d D σ H => ∃ C dd k fs, cls = .ref C ∧ d = some dd ∧ X.mg k = some (.ref C) ∧ liftS ⟨X, none⟩ WNo (su k fs) D σ H) :: m2, .one hc ?_ k1, ?_⟩
    · intro a ob cls d ps hz hd
      refine ⟨fun pins s σ H D I ⟨C, dd, k, fs, e1, e2, e3, e4⟩ => ?_⟩
      subst e1 e2
      exact (h k fs C a dd ob ps e3 hz hd).run pins s σ H D I e4
    · intro σ H ρ av sl S D k fs cls dd hs he hx g
      obtain ⟨C, x1, x2, d, vs, x3, x4, x5, x6, x7⟩ := id hx
      subst x2 x3
      unfold dCls at g
      dsimp only at g
      split at g
      · rename_i q
        refine ⟨true, (hm _ _ _ q x1).1, fun _ a na => ⟨C, d, k, fs, rfl, rfl, x1, ρ, av, sl, S, hs, he, ?_⟩, (fun z => nomatch z)⟩
        revert g
        rw [show un none sl = sl from rfl]
        cases su k fs sl S with
        | nx s2 S2 => exact id
        | bk s2 S2 => exact id
        | ct s2 S2 => exact id
        | rt t S2 => exact id
        | exc c2 f2 s2 S2 => exact fun z => z.elim
        | bad => exact fun z => z.elim
      · rename_i q
        exact ⟨false, (hm _ _ _ q x1).1, (fun z => nomatch z), fun _ => k2 σ H ρ av sl S D k fs _ _ hs he hx g⟩
      · exact g.elim
  | @as_ x n i flds m su b0 bs p1 p2 hs2 l2 hg hdb hx0 hi hl h _ ih =>
    obtain ⟨m2, k1, k2⟩ := ih
    obtain ⟨c, hc0, hm⟩ := hx0
    have hc : Names X x c := ⟨hg, hdb, .inl hc0⟩
    refine ⟨(c, some i, fun a cls d D σ H => ∃ (p : Pin) (C : Addr), p.i = i ∧ m.lookup p.c = some true ∧ p.a = a ∧ cls = .ref C ∧ d = some p.d ∧ X.mg p.c = some (.ref C) ∧ liftS ⟨X, some p⟩ WNo (su p.c p.fs) D σ H) :: m2, .as_ hc hi hl ?_ k1, ?_⟩
    · intro a ob cls d ps hz hd
      refine ⟨fun pins s σ H D I ⟨p, C, e0, el, e1, e2, e3, e4, e5⟩ => ?_⟩
      subst e1 e2 e3
      have z := (hm _ _ _ el e4).2 rfl
      exact (h p C ob ps e0 el e4 z.1 z.2 hz.zc hz hd).run pins s σ H D I e5
    · intro σ H ρ av sl S D k fs cls dd hs he hx g
      obtain ⟨C, x1, x2, d, vs, x3, x4, x5, x6, x7⟩ := id hx
      subst x2 x3
      unfold dCls at g
      dsimp only at g
      split at g
      · rename_i q
        refine ⟨true, (hm _ _ _ q x1).1, fun _ a na => ⟨⟨i, a, d, k, vs, fs⟩, C, rfl, q, rfl, rfl, rfl, x1, ρ, av, sl.set i none, S, hs, he.topin (p := ⟨i, a, d, k, vs, fs⟩) x4 x5 x6 x7, ?_⟩, (fun z => nomatch z)⟩
        revert g
        rw [show un (some i) sl = sl.set i none from rfl]
        dsimp only
        cases su k fs (sl.set i none) S with
        | nx s2 S2 => exact fun g σ' H' ρ' e s r hn => g (σ'.set i none) H' ρ' e s (r.unpin i) (by rw [List.length_set, hn, List.length_set])
        | bk s2 S2 => exact fun g σ' H' ρ' e s r hn => g (σ'.set i none) H' ρ' e s (r.unpin i) (by rw [List.length_set, hn, List.length_set])
        | ct s2 S2 => exact fun g σ' H' ρ' e s r hn => g (σ'.set i none) H' ρ' e s (r.unpin i) (by rw [List.length_set, hn, List.length_set])
        | rt t S2 => exact id
        | exc c2 f2 s2 S2 => exact fun z => z.elim
        | bad => exact fun z => z.elim
      · rename_i q
        exact ⟨false, (hm _ _ _ q x1).1, (fun z => nomatch z), fun _ => k2 σ H ρ av sl S D k fs _ _ hs he hx g⟩
      · exact g.elim
/-- try: body; except X as n: ..; except Y: .. -/
theorem ls_try {body : List Stmt} {h0 : ExceptHandler} {hds : List ExceptHandler} {l : List ClD} {pos : Pos} {d : DS} (st : X.stack = X.env :: X.outer) (hf : X.env.frame = some X.env.locals) (hN : X.N.Nodup) (tk : L2N.Takes X W)
    (hb : ∀ (V : WX) (ps : List (Addr × Obj)) (xe : Value → Shared → Prop), L2N.Takes (X.tr ps xe) V → PassesOwn (model X.prog X.w) X.A X.env xe → LSs ⟨X.tr ps xe, none⟩ V body d)
    (hh : HdsD X (h0 :: hds) l) : LS ⟨X, none⟩ W (.Try body (h0 :: hds) [] [] pos) (dTry d l) := by
  obtain ⟨m, k1, k2⟩ := hh.mix (W := W)
  refine (ps_try_mix (tb := fun V => liftS ⟨X, none⟩ V d) st hf hN tk hb k1).imp fun D σ H ⟨ρ, av, sl, S, hs, he, g⟩ => ⟨ρ, av, sl, S, hs, he, ?_⟩
  unfold dTry at g
  revert g
  cases d sl S with
  | exc c fs s1 S1 => exact fun g cls dd σ' H' ρ' e s r hn rx => k2 σ' H' ρ' av s1 S1 D c fs cls dd s r rx (by rw [hn]; exact GoodS.ext e g)
  | nx s1 S1 => exact id
  | bk s1 S1 => exact id
  | ct s1 S1 => exact id
  | rt t S1 => exact id
  | bad => exact id
end
end Dn

/-! raise X(e, ..), X's own __init__ storing its parameters -/
namespace Dn
open PySem PySem.Spec PyProof.Rows L2
/-- the stores of an __init__: a field, a parameter's place -/
def initT (K : PySem.W.Frag) : List (Str × Nat) → TS
  | [] => tNext
  | q :: r => tSeq (tOst K q.1 (tVar 0) (tVar q.2)) (initT K r)
def newFs (vs : List V) (r : List (Str × Nat)) : List (Str × V) := (r.map fun q => (q.1, vs.getD q.2 .non)).reverse
def spInit (C : Addr) (np : Nat) (r : List (Str × Nat)) : Sp := fun vs H Q _ => vs.length = np ∧ ∃ a, vs[0]? = some (.ref a) ∧ H a = some (exo a C none) ∧
  ∀ d H2, H d = none → d ≠ a → H2 a = some (exo a C (some d)) → H2 d = some (exd d (newFs vs r)) → (∀ b, b ≠ a → b ≠ d → H2 b = H b) → Q .non H2
theorem initT_on {K : PySem.W.Frag} {C a d : Addr} {vs : List V} {D : Ends} {σ : L2.St} (T : OexC K C) (h0 : σ[0]? = some (some (.ref a))) : ∀ (r : List (Str × Nat)) (fs : List (Str × V)) (H : Hp), (∀ q ∈ r, PySem.W.findIn K (.ref C) q.1 = some none) →
    (∀ q ∈ r, σ[q.2]? = some (some (vs.getD q.2 .non))) → fs.length + r.length ≤ 900 → H a = some (exo a C (some d)) → H d = some (exd d fs) → d ≠ a →
    (∀ H2, H2 a = some (exo a C (some d)) → H2 d = some (exd d (newFs vs r ++ fs)) → (∀ b, b ≠ a → b ≠ d → H2 b = H b) → D.nx σ H2) → initT K r D σ H
  | [], fs, H, _, _, _, ha, hd, _, h => h H ha hd fun _ _ _ => rfl
  | q :: r, fs, H, hn, hv, hl, ha, hd, ne, h => by
    refine ⟨_, hv q (List.mem_cons_self ..), _, h0, a, C, rfl, T, hn q (List.mem_cons_self ..), .inr ⟨d, fs, ha, hd, by simp only [List.length_cons] at hl; omega, ?_⟩⟩
    refine initT_on T h0 r ((q.1, vs.getD q.2 .non) :: fs) _ (fun p hp => hn p (List.mem_cons_of_mem _ hp)) (fun p hp => hv p (List.mem_cons_of_mem _ hp)) (by simp only [List.length_cons] at hl ⊢; omega) (by rw [upd_ne (Ne.symm ne)]; exact ha) (by rw [upd_same]) ne fun H2 k1 k2 k3 => ?_
    refine h H2 k1 (k2.trans ?_) fun b b1 b2 => (k3 b b1 b2).trans (upd_ne b2)
    simp [newFs]
theorem initT_start {K : PySem.W.Frag} {C a : Addr} {vs : List V} {D : Ends} {σ : L2.St} {q : Str × Nat} {r : List (Str × Nat)} {H : Hp} (T : OexC K C) (h0 : σ[0]? = some (some (.ref a))) (hn : ∀ p ∈ q :: r, PySem.W.findIn K (.ref C) p.1 = some none)
    (hv : ∀ p ∈ q :: r, σ[p.2]? = some (some (vs.getD p.2 .non))) (hl : r.length ≤ 800) (ha : H a = some (exo a C none))
    (h : ∀ d H2, H d = none → d ≠ a → H2 a = some (exo a C (some d)) → H2 d = some (exd d (newFs vs (q :: r))) → (∀ b, b ≠ a → b ≠ d → H2 b = H b) → D.nx σ H2) : initT K (q :: r) D σ H := by
  refine ⟨_, hv q (List.mem_cons_self ..), _, h0, a, C, rfl, T, hn q (List.mem_cons_self ..), .inl ⟨ha, fun d nd ne => ?_⟩⟩
  refine initT_on T h0 r [(q.1, vs.getD q.2 .non)] _ (fun p hp => hn p (List.mem_cons_of_mem _ hp)) (fun p hp => hv p (List.mem_cons_of_mem _ hp)) (by simp only [List.length_cons, List.length_nil]; omega) (by rw [upd_same]) (by rw [upd_ne ne, upd_same]) ne fun H2 k1 k2 k3 => ?_
  refine h d H2 nd ne k1 (k2.trans ?_) fun b b1 b2 => (k3 b b1 b2).trans ((upd_ne b1).trans (upd_ne b2))
  simp [newFs]
/-- THE RULE of such an __init__ -/
theorem init_ok {P : Program} {w : World} {K : PySem.W.Frag} {mg : Str → Option Value} {base : Heap} {x qual : Str} {params : Arguments} {body : List Stmt} {scope : Scope} {f C : Addr} {fd : FuncData} {N : List Str} {k : Nat} {q : Str × Nat} {r : List (Str × Nat)} (F : FunD K x qual params body scope [] [] f fd) (S : FnScope N N scope)
    (T : OexC K C) (hn : ∀ p ∈ q :: r, PySem.W.findIn K (.ref C) p.1 = some none) (hix : ∀ p ∈ q :: r, p.2 < N.length) (hl : r.length ≤ 800)
    (hb : ∀ (cdv : Value) (A : Around) (outer : List Env) (s : Shared) (H : Hp) (E : XK), PSs (cxOf (L2N.CX P w) P w K mg base N qual scope f cdv A outer s H E) body (initT K (q :: r))) : FnOk P w K mg base (L2N.CX P w) (k + 1) f fd N (spInit C N.length (q :: r)) := by
  refine F.ok S (fun vs H Q E h => h.1) (fun cdv A outer s H vs Q E hr h => ⟨_, hb cdv A outer s H E, ?_⟩)
  obtain ⟨h1, a, h2, h3, h4⟩ := h
  have at_ : ∀ j v, vs[j]? = some v → (L2.start N vs)[j]? = some (some v) := fun j v e => by
    unfold L2.start
    rw [List.getElem?_append_left (by rw [List.length_map]; exact (List.getElem?_eq_some_iff.mp e).1), List.getElem?_map, e]
    rfl
  refine initT_start T (at_ 0 _ h2) hn (fun p hp => at_ _ _ ?_) hl h3 h4
  have hj : p.2 < vs.length := by rw [h1]; exact hix p hp
  rw [List.getD_eq_getElem?_getD, List.getElem?_eq_getElem hj]
  rfl
section
variable {X : Cx} {e : Expr} {es : List Expr} {ta : TA} {p pos : Pos}
/-- X(e, ..) where nothing is handled: its context is None -/
theorem pmk_oexN {x : Str} {C fI : Addr} {k : Nat} {fd : FuncData} {ps : List Str} {sp : Sp} (T : OexC X.K C) (iC : PySem.W.findIn X.K (.ref C) "__init__" = some (some (.ref fI))) (tI : PySem.W.typeIn X.K (.ref fI) = some (.type "function"))
    (F1 : FnOk X.prog X.w X.K X.mg X.base (L2N.CX X.prog X.w) k fI fd ps sp) (hr : Room (k + 1) X.A) (hb : Binds X.K fd ps []) (hg : Gl X x) (hm : X.mg x = some (.ref C)) (ha : PA X (e :: es) ta)
    (hdb : (x == ("__debug__" : Str)) = false := by decide) (he : starEach (e :: es) X.env = (false, eval e X.env) :: starEach es X.env := by rfl) (hpl : (backTo pos (starEach es X.env)).any (·.1) = false := by rfl) :
    L2N.PMk X (.Call (.Name x p) (e :: es) [] pos) (tMkO C sp [] ta) := fun pins s σ H Q I h => by
  obtain ⟨_, _, _, _, bm, _, _, _, _, _, _, _, _, _, _, atC, vbm⟩ := T.cls
  refine wpAny_Call_Name_kw (ld_glob I hg hm (PySem.W.callWith_K (h₀ := X.base) I.ok.mod.kin T.kC (thn (ha.run pos pins s σ H _ I h) fun us s1 ⟨vs, G, J, r, lv, q⟩ => ⟨J.kIn, ?_⟩) he hpl) hdb)
  show wpAny _ _ (call (.ref C) us) _ _ _
  obtain ⟨hp, gs, dr, tk, os⟩ := s1
  have up : hp.objs.size ≤ hp.objs.size + 1 := Nat.le_succ _
  have q2 := q (hp.objs.size + 1) (J.hok.fresh up)
  rw [List.append_nil] at q2
  have seat : ((hp.push (PySem.W.kdv_tup us)).push (PySem.HandSPX.excO C hp.objs.size)).get? (hp.objs.size + 1) = some (PySem.HandSPX.excO C hp.objs.size) := by heap_get
  have stay : ∀ b o, hp.get? b = some o → ((hp.push (PySem.W.kdv_tup us)).push (PySem.HandSPX.excO C hp.objs.size)).get? b = some o := fun _ _ e => Heap.get?_push_of_some _ (Heap.get?_push_of_some _ e)
  have J2 := J.laid (t' := tk) (o := exo (hp.objs.size + 1) C none) stay up (exo_ok (P := X.prog) (w := X.w) seat)
  have r2 : Vals (V.ref (hp.objs.size + 1) :: vs) (Value.ref (hp.objs.size + 1) :: us) := .cons rfl r
  have len2 : (Value.ref (hp.objs.size + 1) :: us).length = ps.length := r2.length.symm.trans (F1.len _ _ _ _ q2)
  have b2 := hb _ (Value.ref (hp.objs.size + 1) :: us) J2.kIn (by rw [List.append_nil]; exact len2)
  rw [List.append_nil] at b2
  refine wpAny_call (PySem.HandSPX.call_own F.excBase_ValueError (fun Y => PySem.HandSPX.refsVE_contains Y bm vbm) (J.kIn _ _ atC) (PySem.W.looks_findIn J.kIn iC) (fun self => PySem.W.bind_fn J.kIn self tI) (by rw [← Paired.length r, sizeLine_eq]; omega)
    (codeAny_mono (F1.run _ X.stack _ _ ⟨Value.ref (hp.objs.size + 1) :: us, []⟩ (Value.ref (hp.objs.size + 1) :: us) _ _ (fun _ _ _ => False) (hr.make C us []) (J2.env0.make C us []) b2 r2 q2) fun res s2 hq => ?_))
  cases res with
  | error er => obtain ⟨_, _, _, _, _, _, _, _, _, _, _, _, z⟩ := hq; exact z.elim
  | ok fl =>
    cases fl with
    | next => exact hq.elim
    | brk => exact hq.elim
    | cont => exact hq.elim
    | ret u =>
      obtain ⟨v, G2, os2, bare2, un2, ok2, rv, ev, d, fs, ea, ed, nd, q3⟩ := hq
      subst ev
      obtain ⟨h2, g2, d2, t2, os3⟩ := s2
      obtain ⟨t0, B, K1, kB, nB, hoe, na⟩ := mk_end0 (d2 := d2) (t2 := t2) J up stay un2 ok2 os2 bare2 ea ed nd
      exact ⟨rv, hp.objs.size + 1, _, _, ⟨B, g2, d2, t2, os3⟩, _, .ref C, some d, rfl, K1, kB, nB, hoe, ⟨rfl, rfl, fun _ hv => by cases hv; rfl⟩, rfl, rfl, na, rfl, bare2, raises_own T.exC T.tyC, q3⟩
end
/-- what a def that raises x is told -/
def Mkr (P : Program) (w : World) (K : PySem.W.Frag) (mg : Str → Option Value) (base : Heap) (k : Nat) (x : Str) (np : Nat) (r : List (Str × Nat)) : Prop :=
  ∃ C fI fd ps, mg x = some (.ref C) ∧ OexC K C ∧ PySem.W.findIn K (.ref C) "__init__" = some (some (.ref fI)) ∧ PySem.W.typeIn K (.ref fI) = some (.type "function") ∧ FnOk P w K mg base (L2N.CX P w) k fI fd ps (spInit C np r) ∧ Binds K fd ps []
def dRaise (c : Str) (np : Nat) (r : List (Str × Nat)) (da : DA) : DS := fun sl S => match da sl S with
  | .ok ts S1 => if ts.length + 1 = np then .exc c ((r.map fun q => (q.1, (T.non :: ts).getD q.2 .non)).reverse) sl S1 else .bad
  | .exc c fs S1 => .exc c fs sl S1
  | .bad => .bad
section
variable {K : PySem.W.Frag} {w : World} {H : Hp} {ρ av : List Addr}
theorem RepKd.reverse {κ : Type} {vs : List (κ × V)} {ts : List (κ × T)} (r : RepKd K w H ρ av vs ts) : RepKd K w H ρ av vs.reverse ts.reverse := by
  have go : ∀ {vs : List (κ × V)} {ts : List (κ × T)}, RepKd K w H ρ av vs ts → ∀ {us : List (κ × V)} {qs : List (κ × T)}, RepKd K w H ρ av us qs → RepKd K w H ρ av (vs.reverseAux us) (ts.reverseAux qs) := by
    intro vs ts h
    induction h with
    | nil => exact fun s => s
    | cons r rs ih => exact fun s => ih (.cons r s)
  exact go r .nil
theorem newFs_rep {a : V} {vs : List V} {ts : List T} {np : Nat} (h : RepVs K w H ρ av vs ts) (hn : vs.length + 1 = np) : ∀ (r : List (Str × Nat)), (∀ q ∈ r, 0 < q.2 ∧ q.2 < np) → RepKd K w H ρ av (r.map fun q => (q.1, (a :: vs).getD q.2 .non)) (r.map fun q => (q.1, (T.non :: ts).getD q.2 .non))
  | [], _ => .nil
  | q :: r, k => by
    refine .cons ⟨rfl, ?_⟩ (newFs_rep h hn r fun p hp => k p (List.mem_cons_of_mem _ hp))
    obtain ⟨k1, k2⟩ := k q (List.mem_cons_self ..)
    obtain ⟨f, j⟩ := q
    cases j with
    | zero => exact absurd k1 (by simp)
    | succ j =>
      dsimp only
      simp only [List.getD_cons_succ]
      have hj : j < ts.length := by rw [← h.length]; simp only at k2; omega
      obtain ⟨v, hv, rv⟩ := h.get (List.getElem?_eq_getElem hj)
      rw [List.getD_eq_getElem?_getD, List.getD_eq_getElem?_getD, hv, List.getElem?_eq_getElem hj]
      exact rv
end
theorem ls_raise {X : DX} {W : WX} {k np : Nat} {x : Str} {r : List (Str × Nat)} {e : Expr} {es : List Expr} {da : DA} {p pos ps2 : Pos} (M : Mkr X.prog X.w X.K X.mg X.base k x np r) (hr : Room (k + 1) X.A) (hg : Gl X x) (hc : X.calm = true) (tk : L2N.Takes X W) (ha : LA X W (e :: es) da)
    (hnp : np ≤ 900) (hix : ∀ q ∈ r, 0 < q.2 ∧ q.2 < np) (hdb : (x == ("__debug__" : Str)) = false := by decide) (he : starEach (e :: es) X.env = (false, eval e X.env) :: starEach es X.env := by rfl) (hpl : (backTo pos (starEach es X.env)).any (·.1) = false := by rfl) :
    LS X W (.Raise (some (.Call (.Name x p) (e :: es) [] pos)) none ps2) (dRaise x np r da) := by
  obtain ⟨C, fI, fd, ps, hm, T, iC, tI, F, hb⟩ := M
  refine (L2N.ps_raise hc tk (pmk_oexN T iC tI F hr hb hg hm ha hdb he hpl)).imp fun D σ H ⟨ρ, av, sl, S, hs, hE, g⟩ => ⟨ρ, av, sl, S, hs, hE, ?_⟩
  unfold dRaise at g
  revert g
  cases da sl S with
  | exc c fs S1 => exact fun g cls dd H' ρ' e1 s1 rx => g cls dd σ H' ρ' e1 s1 (hE.ext e1) rfl rx
  | bad => exact fun g => g.elim
  | ok ts S1 =>
    intro g vs H1 ρ1 e1 s1 r1
    dsimp only at g
    split at g
    · rename_i hl
      have hlv : vs.length + 1 = np := by rw [r1.length]; exact hl
      refine ⟨by omega, fun a na => ⟨by rw [List.append_nil]; exact hlv, a, rfl, upd_same, fun d H2 nd ne k1 k2 k3 => ?_⟩⟩
      rw [upd_ne ne] at nd
      rw [List.append_nil] at k2
      refine ⟨rfl, d, _, k1, k2, nd, ?_⟩
      have hH : upd (del H2 a) d (.xd (newFs (.ref a :: vs) r)) = upd H1 d (.xd (newFs (.ref a :: vs) r)) := by
        funext b
        by_cases b1 : b = d
        · subst b1; rw [upd_same, upd_same]
        · rw [upd_ne b1, upd_ne b1]
          by_cases b2 : b = a
          · subst b2; rw [del_same, na]
          · rw [del_ne b2, k3 b b2 b1, upd_ne b2]
      rw [hH]
      have e2 := Ext.laid s1 nd (.xd (newFs (.ref a :: vs) r))
      refine g (.ref C) (some d) σ _ ρ1 (e1.trans e2) (s1.laid nd _) (hE.ext (e1.trans e2)) rfl ⟨C, hm, rfl, d, _, rfl, upd_same, fun z => ?_, fun z => ?_, ?_⟩
      · obtain ⟨u, hu, _⟩ := s1.there z
        rw [nd] at hu; cases hu
      · exact (s1.out d z).1 nd
      · exact ((newFs_rep r1 hlv r hix).reverse).ext e2
    · exact g.elim
end Dn

/-! the facts of own error classes, from the head -/
namespace Dn
open PySem PySem.Spec PyProof.Rows L2
theorem takes0N {X : Cx} : L2N.Takes X (fun _ _ _ _ => False) := fun _ _ ⟨_, _, _, _, _, _, _, _, _, _, _, _, _, _, _, _, z⟩ => z.elim
/-- a class that is raised: its __init__ is at fI, the fields fs are no names of the class -/
def oexB (K : PySem.W.Frag) (C fI : Addr) (fs : List Str) : Bool :=
  (match K.lookup C with
    | some ⟨.type "type", _, .cls cd, sl⟩ => (match cd.mro, sl.toList with
      | .ref C' :: bm, [_, _, _, _, some (.builtin n), _] => C' == C && (n == "ValueError.__new__" && (!cd.hasDel && (cd.hasDict && PySem.HandSPX.refsVE bm)))
      | _, _ => false)
    | _ => false) &&
  (decide (PySem.W.findIn K (.ref C) "__setattr__" = some (some (.builtin "object.__setattr__"))) && (decide (PySem.W.subIn K (.ref C) (.type "BaseException") = some true) && (decide (PySem.W.typeIn K (.ref C) = some (.type "type")) && (PySem.W.keepIn K (.ref C) &&
  (decide (PySem.W.findIn K (.ref C) "__init__" = some (some (.ref fI))) && (decide (PySem.W.typeIn K (.ref fI) = some (.type "function")) && fs.all fun f => decide (PySem.W.findIn K (.ref C) f = some none)))))))
theorem oexB_ok {K : PySem.W.Frag} {C fI : Addr} {fs : List Str} (h : oexB K C fI fs = true) : OexC K C ∧ PySem.W.findIn K (.ref C) "__init__" = some (some (.ref fI)) ∧ PySem.W.typeIn K (.ref fI) = some (.type "function") ∧ ∀ f ∈ fs, PySem.W.findIn K (.ref C) f = some none := by
  unfold oexB at h
  simp only [Bool.and_eq_true, decide_eq_true_eq, List.all_eq_true] at h
  obtain ⟨h0, h1, h2, h3, h4, h5, h6, h7⟩ := h
  refine ⟨⟨?_, h1, h2, h3, h4⟩, h5, h6, h7⟩
  split at h0
  · rename_i dd cd sl ho
    split at h0
    · rename_i C' bm k0 k1 k2 k3 n k5 hm hs
      simp only [Bool.and_eq_true, beq_iff_eq, Bool.not_eq_true'] at h0
      obtain ⟨rfl, rfl, hdel, hdict, hve⟩ := h0
      obtain ⟨nm, bs, mro, ns, qn, hd, sn, sub, ab, col, del⟩ := cd
      dsimp only at hm hdel hdict
      subst hm hdel hdict
      have hsl : sl = #[k0, k1, k2, k3, some (.builtin "ValueError.__new__"), k5] := by
        obtain ⟨l⟩ := sl
        simp only at hs
        rw [hs]
      subst hsl
      exact ⟨nm, qn, ns, bs, bm, sn, sub, ab, col, dd, k0, k1, k2, k3, k5, ho, hve⟩
    · cases h0
  · cases h0
/-- a class that an except clause names, over the classes that are raised -/
def hdB (K : PySem.W.Frag) (x : Str) (m : List (Str × Bool)) (fs : List Str) : Bool :=
  m.all fun p => decide (PySem.W.exmOne K (.ref (He.ga K p.1)) (.ref (He.ga K x)) = some p.2) && (!p.2 || (xfB K (He.ga K p.1) && fs.all fun f => decide (PySem.W.findIn K (.ref (He.ga K p.1)) f = some none)))
theorem lookup_mem {α : Type} {k : Str} {b : α} : ∀ {m : List (Str × α)}, m.lookup k = some b → (k, b) ∈ m
  | [], h => nomatch h
  | (q, c) :: m, h => by
    rw [List.lookup] at h
    split at h
    · rename_i e
      cases h
      rw [show k = q from by simpa using e]
      exact List.mem_cons_self ..
    · exact List.mem_cons_of_mem _ (lookup_mem h)
theorem hdx_of {K : PySem.W.Frag} {mg : Str → Option Value} {x : Str} {m : List (Str × Bool)} {fs : List Str} (hx : mg x = some (.ref (He.ga K x))) (hg : ∀ p ∈ m, mg p.1 = some (.ref (He.ga K p.1))) (h : hdB K x m fs = true) : HdX K mg x m fs := by
  refine ⟨_, hx, fun k b C hk hC => ?_⟩
  have hm := lookup_mem hk
  have e := hg _ hm
  dsimp only at e
  rw [hC] at e
  cases e
  unfold hdB at h
  have q := List.all_eq_true.mp h _ hm
  simp only [Bool.and_eq_true, decide_eq_true_eq, Bool.or_eq_true, Bool.not_eq_true', List.all_eq_true] at q
  refine ⟨q.1, fun hb => ?_⟩
  rcases q.2 with z | ⟨z1, z2⟩
  · rw [hb] at z; cases z
  · exact ⟨xfB_ok z1, z2⟩
theorem mkr_of {P : Program} {w : World} {K : PySem.W.Frag} {mg : Str → Option Value} {base : Heap} {x : Str} {d : He.DefD} {fd : FuncData} {N flds : List Str} {k np : Nat} {q : Str × Nat} {r : List (Str × Nat)} (hm : mg x = some (.ref (He.ga K x))) (ho : oexB K (He.ga K x) (He.ma K (He.ga K x) "__init__") flds = true)
    (F : FunD K d.name d.qual d.params d.body d.scope [] [] (He.ma K (He.ga K x) "__init__") fd) (S : FnScope N N d.scope) (hbi : ∀ (kV doc pm : Value) (an : Option Addr) (cdv ct : Value) (us : List Value), us.length = N.length → bindArgs (PySem.W.fnOf d.name d.qual d.params d.body d.scope .none kV doc pm an cdv ct) ⟨us, []⟩ = pure (N.zip us))
    (hb : ∀ (cdv : Value) (A : Around) (outer : List Env) (s : Shared) (H : Hp) (E : XK), PSs (cxOf (L2N.CX P w) P w K mg base N d.qual d.scope (He.ma K (He.ga K x) "__init__") cdv A outer s H E) d.body (initT K (q :: r)))
    (hf : (q :: r).map (·.1) = flds := by rfl) (hnp : N.length = np := by rfl) (hix : ∀ p ∈ q :: r, p.2 < N.length := by decide) (hl : r.length ≤ 800 := by decide) : Mkr P w K mg base (k + 1) x np (q :: r) := by
  subst hnp
  obtain ⟨T, h1, h2, h3⟩ := oexB_ok ho
  refine ⟨_, _, fd, N, hm, T, h1, h2, init_ok F S T (fun p hp => h3 _ (hf ▸ List.mem_map_of_mem hp)) hix hl hb, F.bindsN hbi⟩
end Dn

/-! reading try, raise, e.f -/
namespace Dn
open PySem PySem.Spec L2
section
variable {t : T} {S S1 : Sto} {sl sl1 : Sl} {b : Bool} {c : Str} {fs : Flds} {ts : List T} {l : List ClD} {o : Option Nat} {m : List (Str × Bool)} {su : Str → Flds → DS}
def RS.tryR (r : RS) (l : List ClD) : RS := match r with
  | .exc c fs sl1 S1 => dCls c fs sl1 S1 l
  | r => r
@[simp] theorem dTry_eq (d : DS) : dTry d l sl S = (d sl S).tryR l := id rfl
@[simp] theorem tryR_nx : (RS.nx sl S).tryR l = .nx sl S := id rfl
@[simp] theorem tryR_rt : (RS.rt t S).tryR l = .rt t S := id rfl
@[simp] theorem tryR_exc : (RS.exc c fs sl S).tryR l = dCls c fs sl S l := id rfl
@[simp] theorem dCls_nil : dCls c fs sl S [] = .exc c fs sl S := id rfl
def clR (k : Option Bool) (x y : RS) : RS := match k with
  | some true => x
  | some false => y
  | none => .bad
@[simp] theorem clR_t {x y : RS} : clR (some true) x y = x := id rfl
@[simp] theorem clR_f {x y : RS} : clR (some false) x y = y := id rfl
@[simp] theorem dCls_cons : dCls c fs sl S ((o, m, su) :: l) = clR (m.lookup c) ((su c fs (un o sl) S).inSuite o) (dCls c fs sl S l) := id rfl
@[simp] theorem un_none : un none sl = sl := id rfl
@[simp] theorem un_some {i : Nat} : un (some i) sl = sl.set i none := id rfl
@[simp] theorem inSuite_rt : (RS.rt t S).inSuite o = .rt t S := id rfl
@[simp] theorem inSuite_nx : (RS.nx sl S).inSuite o = .nx (un o sl) S := id rfl
@[simp] theorem setM_int' {i : Nat} {k : Int} : setM i sl S (.int k) = .nx (sl.set i (some (.int k))) S := id rfl
@[simp] theorem setM_str' {i : Nat} {k : Str} : setM i sl S (.str k) = .nx (sl.set i (some (.str k))) S := id rfl
@[simp] theorem setM_tup' {i : Nat} {k : List T} : setM i sl S (.tup k) = .nx (sl.set i (some (.tup k))) S := id rfl
@[simp] theorem setM_ref' {i k : Nat} : setM i sl S (.ref k) = .nx (sl.set i (some (.ref k))) S := id rfl
def pinR (v : Option (Option T)) (x : Option T) (S : Sto) : RE := match v with
  | some none => (match x with
    | some t => .ok t S
    | none => .bad)
  | _ => .bad
@[simp] theorem pinR_ok : pinR (some none) (some t) S = .ok t S := id rfl
@[simp] theorem dPin_eq {i : Nat} {f : Str} : dPin i fs f sl S = pinR sl[i]? (fs.lookup f) S := by
  unfold dPin pinR
  cases sl[i]? with
  | none => rfl
  | some x => cases x <;> rfl
def RA.rz (r : RA) (c : Str) (np : Nat) (q : List (Str × Nat)) (sl : Sl) : RS := match r with
  | .ok ts S1 => if ts.length + 1 = np then .exc c ((q.map fun q => (q.1, (T.non :: ts).getD q.2 .non)).reverse) sl S1 else .bad
  | .exc c fs S1 => .exc c fs sl S1
  | .bad => .bad
@[simp] theorem rz_ok {np : Nat} {q : List (Str × Nat)} : (RA.ok ts S).rz c np q sl = if ts.length + 1 = np then .exc c ((q.map fun q => (q.1, (T.non :: ts).getD q.2 .non)).reverse) sl S else .bad := id rfl
@[simp] theorem dRaise_eq {np : Nat} {q : List (Str × Nat)} {d : DA} : dRaise c np q d sl S = (d sl S).rz c np q sl := by
  unfold dRaise RA.rz
  cases d sl S <;> rfl
@[simp] theorem gcR_exc {S S' : Sto} : gcR S (.exc c fs sl S') = gcX S c fs S' := id rfl
theorem gcX_cut {S S' : Sto} (h : CutOk S S') (hf : (fs.all fun p => T.lt S.length p.2) = true) : gcX S c fs S' = .exc c fs (S'.take S.length) := by
  unfold gcX
  rw [if_pos ⟨h, hf⟩]
theorem gcX_same (hf : (fs.all fun p => T.lt S.length p.2) = true) : gcX S c fs S = .exc c fs S := by
  rw [gcX_cut ⟨Nat.le_refl _, fun i hi o ho => .inl ho⟩ hf, List.take_length]
@[simp] theorem RE.bind_excE (f : T → Sto → RE) : (RE.exc c fs S).bind f = .exc c fs S := id rfl
@[simp] theorem dExpr_exc {d : DE} (h : d sl S = .exc c fs S1) : dExpr d sl S = .exc c fs sl S1 := by
  unfold dExpr; rw [h]; rfl
end
end Dn

/-! isinstance of the exception that is handled; defs called with it -/
namespace Dn
open PySem PySem.Spec PySem.W PySem.Calls PyProof.Rows
section
variable {prog : Program} {w : World} {A : Around} {E : Value → Shared → Prop} {s : Shared} {K : Frag} {x D : Addr} {ox od : Obj}
/-- e.__class__ of an error that has its dict -/
theorem exc_class {Q : Option Value → Shared → Prop} (C : L2.ExcC K D) (X : K.In s.heap) (I : InstAt s.heap x ox D (some od)) (h : Q (some (.ref D)) { s with toks := s.toks + 1 }) : wpAny (model prog w) A (getAttr? (.ref x) "__class__") Q E s := by
  have hf : findObj K D (some od) "__class__" = some (.bind (.builtin "getset_descriptor.__get__") (.builtin "object.__class__")) := findObj_data (by obtain ⟨cd, hc, _⟩ := any_some C.hd; rw [hc]; rfl) C.ha C.hn C.ht
  obtain ⟨hp, g, d, t, os⟩ := s
  have t0 := I.type (M := model prog w)
  have t1 := looks_findIn (M := model prog w) X C.hg
  have t2 := looks_findIn (M := model prog w) X C.hk
  have t3 := looks_find (M := model prog w) X I hf
  have below : Looks (model prog w) hp (isInstance (.ref x) (.type "BaseException")) true := t0.andThen (looks_subIn X C.hs)
  have b2 : (Value.builtin "BaseException.__getattribute__" == Value.builtin "object.__getattribute__") = false := by decide +kernel
  have b1 : (onTheHeap (Value.ref D) && Value.builtin "BaseException.__getattribute__" == Value.builtin "object.__getattribute__") = false := by rw [b2]; rfl
  have b0 : (false && onTheHeap (Value.builtin "BaseException.__getattribute__")) = false := rfl
  unfold getAttr? getAttrBy? getAttrBy
  refine wpAny_bind (wpAny_mkText (wpAny_bind (wpAny_attempt (wpAny_holding (wpAny_bind (t0.at (wpAny_bind (t1.at ?_))))))))
  show wpAny _ _ (if (onTheHeap (Value.ref D) && Value.builtin "BaseException.__getattribute__" == Value.builtin "object.__getattribute__") = true then _ else _) _ _ _
  rw [b1, if_neg Bool.false_ne_true]
  unfold getAttrByItsOwn hookBefore
  refine wpAny_bind ?_
  rw [if_pos (show onTheHeap (Value.ref D) = true from rfl)]
  refine t2.at ?_
  refine wpAny_bind (wpAny_attempt (wpAny_holding ?_))
  unfold callGetattribute
  rw [b0, if_neg Bool.false_ne_true]
  unfold boundAndCalled
  rw [PySem.F.excAttr_ValueError.ga.bind (.ref x)]
  refine wpAny_bind (wpAny_pure ?_)
  show wpAny _ _ (call (.builtin "BaseException.__getattribute__") [.ref x, .str "__class__" t]) _ _ _
  refine wpAny_call (codeAny_call_builtin PySem.F.excAttr_ValueError.ga.plain PySem.F.entry_bexc_ga (@check_slot (model prog w) _ _ ⟨hp, g, d, t + 1, os⟩ "BaseException.__getattribute__" "BaseException" "__getattribute__" (.ref x) [.str "__class__" t] [] _ (by decide +kernel) (by decide +kernel) below (PySem.F.args_bexc_ga (.ref x) (.str "__class__" t)) ?_))
  unfold Builtin.«object.__getattribute__»
  refine wpAny_bind (wpAny_of_eq (a := ((Value.ref x : Value), [Value.str "__class__" t])) (by first | rfl | (simp only [slotArgs]; rfl)) (wpAny_bind (wpAny_pure (wpAny_bind (t0.at (wpAny_bind (t3.at ?_)))))))
  show wpAny _ _ (holding [Value.builtin "object.__class__"] (call (.builtin "getset_descriptor.__get__") [.builtin "object.__class__", .ref x, .ref D]) >>= ret) _ _ _
  refine wpAny_bind (wpAny_holding (wpAny_call (class_get (s := ⟨hp, g, d, t + 1, os⟩) (ox := ox) (od := some od) X I C.hm (wpAny_pure ?_))))
  show wpAny _ _ (handedOut (.ref D)) _ _ _
  rw [handedOut_of (v := .ref D) rfl]
  first
    | exact wpAny_pure h
    | exact wpAny_pure (wpAny_pure h)
    | exact wpAny_pure (wpAny_bind (wpAny_pure (wpAny_pure h)))
theorem kit_exc (C : L2.ExcC K D) : KitX K (.ref x) (.ref D) (fun h => InstAt h x ox D (some od)) where
  ty := fun _ _ _ I => I.type
  it := fun _ _ X _ => by
    obtain ⟨cd, hc, _⟩ := any_some C.hd
    unfold clsIn at hc
    split at hc
    · rename_i _ _ _ _ ho
      intro A' Q' E' s' k q
      unfold isType loadHead
      exact wpAny_bind (wpAny_loadPart (k _ _ (X _ _ ho)) (wpAny_pure q))
    · cases hc
  ne := fun h tp dd its n sl X htp => by
    obtain ⟨cd, hc, _⟩ := any_some C.hd
    refine Bool.eq_false_iff.mpr fun q => ?_
    obtain rfl : D = tp := Value.ref.inj (beq_iff_eq.mp q)
    unfold clsIn at hc
    split at hc
    · rename_i _ _ _ _ ho
      cases (X _ _ ho).symm.trans htp
    · cases hc
  ca := fun X I k => exc_class C X I k
end
end Dn

/-! e.f, isinstance(e, X), f(e) where e is the exception that is handled -/
namespace Dn
open PySem PySem.Spec PyProof.Rows L2
/-- the pinned exception stands in the context -/
structure PinX (X : Cx) (p : Pin) (C : Addr) (ob : Obj) : Prop where
  mem : (p.a, ob) ∈ X.pn
  hz : Zc (.ref C) (some p.d) ob
  dat : ∃ us, ob.data = .fields us
  mgc : X.mg p.c = some (.ref C)
section
variable {X : Cx} {p : Pin} {C : Addr} {ob : Obj} {W : WX}
theorem PinX.inst (P : PinX X p C ob) {pins : List (Addr × Obj)} {σ : L2.St} {H : Hp} {s : Shared} {fs : List (Str × V)} (I : Inv X pins σ H s) (hd : H p.d = some (.xd fs)) : ∃ od, PySem.W.InstAt s.heap p.a ob C (some od) ∧ ∃ mA : Str → Option Value, (∀ n, PySem.W.lookIn n od = some (mA n)) ∧ ∀ f, RelO (fs.lookup f) (mA f) := by
  obtain ⟨ha, _⟩ := I.pin (p.a, ob) (List.mem_append_left _ P.mem)
  obtain ⟨us, hu⟩ := P.dat
  have hx : ObjOk X.prog X.w H s.heap p.d (.xd fs) := I.hok p.d _ hd
  obtain ⟨mA, hns, hr⟩ := hx
  obtain ⟨od, ho, hl⟩ := lookIn_ns hns
  exact ⟨od, ⟨ha, P.hz.1, by unfold PySem.W.notCls; rw [hu] <;> rfl, by rw [P.hz.2]; exact ho⟩, mA, hl, hr⟩
/-- e.f -/
theorem le_pinG {e : Expr} {f : Str} {pos : Pos} {i : Nat} (P : PinX X p C ob) (hpi : p.i = i) (T : XfC X.K C) (hno : PySem.W.findIn X.K (.ref C) f = some none) (he : PE X e (tVar i)) (hb : attributeBase e f X.env (eval e X.env) = eval e X.env := by rfl) :
    LE ⟨X, some p⟩ W (.Attribute e f pos) (dPin i p.fs f) := by
  subst hpi
  refine ⟨fun pins s σ H Q I ⟨ρ, av, sl, S, hs, hh, g⟩ => ?_⟩
  unfold dPin at g
  obtain ⟨h1, h2, h3, h4, h5⟩ := hh.pin p rfl
  split at g
  · rename_i q1
    split at g
    · rename_i t q2
      obtain ⟨v, hv, rv⟩ := lookup_rep h4 q2
      refine attr_of hb (thn (he.run pins s σ H (fun x H1 => x = .ref p.a ∧ H1 = H) I ⟨_, h5 q1, rfl, rfl⟩) fun u s1 ⟨x, H1, I1, rx, ex, eH⟩ => ?_)
      subst ex eH
      obtain rfl : u = Value.ref p.a := rx
      obtain ⟨od, J, mA, hl, hr⟩ := P.inst I1 h1
      obtain ⟨u, hu, ru⟩ := RelO.some_of (v := v) (o := mA f) (by rw [← hv]; exact hr f)
      exact HandSPX.exc_get I1.kIn J T.ga T.gg T.exC (PySem.W.findObj_own T.hdC hno rfl (by rw [hl, hu])) (handed_of ru) ⟨v, H1, I1.tok _, ru, g.now hs rv⟩
    · exact g.elim
  · exact g.elim
/-- what is known of isinstance, the second one being the class x -/
def IsX (K : PySem.W.Frag) (mg : Str → Option Value) (x : Str) (m : List (Str × Bool)) : Prop := ∃ c, mg x = some (.ref c) ∧ ∀ k b C, m.lookup k = some b → mg k = some (.ref C) → ExcC K C ∧ PySem.W.kitOne K (.ref C) (.ref c) = some b
def dIsx (i : Nat) (m : List (Str × Bool)) (c : Str) : DE := fun sl S => match sl[i]? with
  | some none => (match m.lookup c with
    | some b => .ok (.bl b) S
    | none => .bad)
  | _ => .bad
def dIsx3 (i : Nat) (m1 m2 m3 : List (Str × Bool)) (c : Str) : DE := fun sl S => match sl[i]? with
  | some none => (match m1.lookup c, m2.lookup c, m3.lookup c with
    | some b1, some b2, some b3 => .ok (.bl (b1 || (b2 || b3))) S
    | _, _, _ => .bad)
  | _ => .bad
def rIsD (K : PySem.W.Frag) (C a dd : Addr) : List V → Hp → VK → Prop := fun xs H Q => ∃ (c : Addr) (b : Bool) (fs : List (Str × V)), xs = [.ref a, .ref c] ∧ H dd = some (.xd fs) ∧ ExcC K C ∧ PySem.W.kitOne K (.ref C) (.ref c) = some b ∧ Q (.bl b) H
theorem call_isD (P : PinX X p C ob) : CallR X (.builtin "isinstance") (rIsD X.K C p.a p.d) := by
  intro pins s σ H xs us Q I r ⟨c, b, fs, exs, hd, hE, hk, q⟩
  subst exs
  obtain ⟨u1, u2, rfl, r1, r2⟩ := vals2 r
  cases (show u1 = Value.ref p.a from r1)
  cases (show u2 = Value.ref c from r2)
  obtain ⟨od, J, _⟩ := P.inst I hd
  exact PySem.W.kia_one (kit_exc hE) I.kIn J hk (fun z => nomatch z) fun tk => ⟨.bl b, H, I.tok tk, rfl, q⟩
def rIsDT (K : PySem.W.Frag) (C a dd : Addr) : List V → Hp → VK → Prop := fun xs H Q => ∃ (tp : Addr) (cs : List Addr) (b : Bool) (fs : List (Str × V)), xs = [.ref a, .ref tp] ∧ H tp = some (.tup (cs.map V.ref)) ∧ H dd = some (.xd fs) ∧ ExcC K C ∧ PySem.W.kitAny K (.ref C) (cs.map Value.ref) = some b ∧ Q (.bl b) H
theorem clsV_refs : ∀ cs : List Addr, Paired ClsV (cs.map V.ref) (cs.map Value.ref)
  | [] => .nil
  | c :: cs => .cons (.own c) (clsV_refs cs)
theorem call_isDT (P : PinX X p C ob) : CallR X (.builtin "isinstance") (rIsDT X.K C p.a p.d) := by
  intro pins s σ H xs us Q I r ⟨tp, cs, b, fs, exs, hT, hd, hE, hk, q⟩
  subst exs
  obtain ⟨u1, u2, rfl, r1, r2⟩ := vals2 r
  cases (show u1 = Value.ref p.a from r1)
  cases (show u2 = Value.ref tp from r2)
  obtain ⟨od, J, _⟩ := P.inst I hd
  obtain ⟨_, its, rv, o, h1, h2, n, h3⟩ := (show ObjOk X.prog X.w H s.heap tp (.tup (cs.map V.ref)) from I.hok tp _ hT)
  have e3 := ClsV.all (clsV_refs cs) rv
  subst e3
  obtain ⟨oc, od', dt, sl⟩ := o
  simp only at h2 h3
  subst h2 h3
  exact PySem.W.kia_tup (kit_exc hE) I.kIn J h1 hk (fun z => nomatch z) fun tk => ⟨.bl b, H, I.tok tk, rfl, q⟩
theorem le_isx {e : Expr} {x : Str} {q q2 pos : Pos} {i : Nat} {m : List (Str × Bool)} (P : PinX X p C ob) (hpi : p.i = i) (hx : IsX X.K X.mg x m) (hg : Gl X "isinstance") (hm : X.mg "isinstance" = none) (hgx : Gl X x) (he : PE X e (tVar i))
    (hst : starEach [e, .Name x q2] X.env = (false, eval e X.env) :: starEach [.Name x q2] X.env := by rfl) (hdb : (x == ("__debug__" : Str)) = false := by decide) : LE ⟨X, some p⟩ W (.Call (.Name "isinstance" q) [e, .Name x q2] [] pos) (dIsx i m p.c) := by
  subst hpi
  obtain ⟨c, hc, hk⟩ := hx
  refine (pe_callB (X := X) (he := hst) (call_isD P) hg hm PyProof.Rows.boot_isinstance (pa_cons he (pa_cons (pe_glob (v := .ref c) hgx hc rfl hdb) pa_nil) hst)).imp fun σ H Q ⟨ρ, av, sl, S, hs, hh, g⟩ => ?_
  unfold dIsx at g
  obtain ⟨h1, h2, h3, h4, h5⟩ := hh.pin p rfl
  split at g
  · rename_i q1
    split at g
    · rename_i b q2
      obtain ⟨k1, k2⟩ := hk _ _ _ q2 P.mgc
      exact ⟨_, h5 q1, c, b, p.vs, rfl, h1, k1, k2, g.now hs (.bl _)⟩
    · exact g.elim
  · exact g.elim
theorem le_isx3 {e : Expr} {x y z : Str} {q q1 q2 q3 pos tpos : Pos} {k : Nat} {i : Nat} {m1 m2 m3 : List (Str × Bool)} (P : PinX X p C ob) (hpi : p.i = i) (hx : IsX X.K X.mg x m1) (hy : IsX X.K X.mg y m2) (hz : IsX X.K X.mg z m3) (hg : Gl X "isinstance") (hm : X.mg "isinstance" = none) (hgx : Gl X x) (hgy : Gl X y) (hgz : Gl X z) (he : PE X e (tVar i))
    (hst : starEach [e, .Tuple [.Name x q1, .Name y q2, .Name z q3] k tpos] X.env = (false, eval e X.env) :: starEach [.Tuple [.Name x q1, .Name y q2, .Name z q3] k tpos] X.env := by rfl)
    (hdx : (x == ("__debug__" : Str)) = false := by decide) (hdy : (y == ("__debug__" : Str)) = false := by decide) (hdz : (z == ("__debug__" : Str)) = false := by decide) : LE ⟨X, some p⟩ W (.Call (.Name "isinstance" q) [e, .Tuple [.Name x q1, .Name y q2, .Name z q3] k tpos] [] pos) (dIsx3 i m1 m2 m3 p.c) := by
  subst hpi
  obtain ⟨c1, hc1, hk1⟩ := hx
  obtain ⟨c2, hc2, hk2⟩ := hy
  obtain ⟨c3, hc3, hk3⟩ := hz
  refine (pe_callB (X := X) (he := hst) (call_isDT P) hg hm PyProof.Rows.boot_isinstance (pa_cons he (pa_cons (pe_tup (pa_cons (pe_glob (v := .ref c1) hgx hc1 rfl hdx) (pa_cons (pe_glob (v := .ref c2) hgy hc2 rfl hdy) (pa_cons (pe_glob (v := .ref c3) hgz hc3 rfl hdz) pa_nil)))) pa_nil) hst)).imp fun σ H Q ⟨ρ, av, sl, S, hs, hh, g⟩ => ?_
  unfold dIsx3 at g
  obtain ⟨h1, h2, h3, h4, h5⟩ := hh.pin p rfl
  split at g
  · rename_i q1
    split at g
    · rename_i b1 b2 b3 l1 l2 l3
      obtain ⟨k1, k1'⟩ := hk1 _ _ _ l1 P.mgc
      obtain ⟨_, k2'⟩ := hk2 _ _ _ l2 P.mgc
      obtain ⟨_, k3'⟩ := hk3 _ _ _ l3 P.mgc
      have hany : PySem.W.kitAny X.K (.ref C) ([c1, c2, c3].map Value.ref) = some (b1 || (b2 || b3)) := by
        refine kitAny_cons k1' (fun e1 => kitAny_cons k2' (fun e2 => kitAny_cons k3' (fun e3 => ?_) fun e3 => ?_) fun e2 => ?_) fun e1 => ?_
        · rw [e1, e2, e3]; rfl
        · rw [e1, e2, e3]; rfl
        · rw [e1, e2]; rfl
        · rw [e1]; rfl
      refine ⟨_, h5 q1, ?_⟩
      refine ⟨by show 3 ≤ sizeLine; rw [sizeLine_eq]; omega, fun tp htp => ?_⟩
      have hne : p.d ≠ tp := fun z => by rw [z, htp] at h1; cases h1
      exact ⟨tp, [c1, c2, c3], b1 || (b2 || b3), p.vs, rfl, upd_same, by rw [upd_ne hne]; exact h1, k1, hany, g _ _ ρ (Ext.laid hs htp _) (hs.laid htp _) (.bl _)⟩
    · exact g.elim
  · exact g.elim
end
end Dn

/-! defs that are called with the handled exception -/
namespace Dn
open PySem PySem.Spec PyProof.Rows L2 L2H
/-- what such a def promises, p being the handled exception's object -/
structure FnX (P : Program) (w : World) (K : PySem.W.Frag) (mg : Str → Option Value) (base : Heap) (k : Nat) (f : Addr) (fd : FuncData) (ps : List Str) (p : Addr × Obj) (sp : Sp) : Prop where
  len : ∀ vs H Q E, sp vs H Q E → vs.length = ps.length
  run : ∀ (A : Around) (outer : List Env) (s : Shared) (H : Hp) (args : Args) (us : List Value) (vs : List V) (Q : VK) (E : XK), RoomH k A → Hot1 A p → PinOk outer H s p → Env0 P w K mg base A outer s H → BindsTo s fd args (ps.zip us) → Vals vs us → sp vs H Q E →
    codeAny (model P w) A (.call (.ref f) args) (CR (L2N.CX P w) outer P w H s Q E) s
section
variable {P : Program} {w : World} {K : PySem.W.Frag} {mg : Str → Option Value} {base : Heap}
theorem fnX_of {k : Nat} {f : Addr} {name qual : Str} {params : Arguments} {body : List Stmt} {scope : Scope} {dV kV doc pm cdv ct oc : Value} {an od : Option Addr} {osl : Array (Option Value)} {N ps : List Str} {p : Addr × Obj} {sp : Sp}
    (lk : K.lookup f = some ⟨oc, od, .func (PySem.W.fnOf name qual params body scope dV kV doc pm an cdv ct), osl⟩) (hcd : PySem.W.codeIn K cdv qual = true) (S : FnScope N ps scope) (len : ∀ vs H Q E, sp vs H Q E → vs.length = ps.length)
    (hb : ∀ (A : Around) (outer : List Env) (s : Shared) (H : Hp) (vs : List V) (Q : VK) (E : XK), Hot1 A p → RoomH k (A.deeper (envOfC qual scope s.heap.objs.size f cdv)) → sp vs H Q E →
      ∃ t, PSs (cxH (L2N.CX P w) P w K mg base N qual scope f cdv A outer s H E p) body t ∧ t { nx := fun _ H' => Q .non H', rt := Q } (L2.start N vs) H) :
    FnX P w K mg base (k + 1) f (PySem.W.fnOf name qual params body scope dV kV doc pm an cdv ct) ps p sp := ⟨len, fun A outer s H args us vs Q E hr hot pin e0 bi r h => by
  have inK : K.In s.heap := e0.mod.kin.keeps fun b o e => (e0.bs b o e).1
  have free : s.heap.NoLimit := e0.mod.nolimit.keeps fun b o e => (e0.bs b o e).1
  have kinds : ∀ y ∈ ps.zip us, scope.names.lookup y.1 = some .local ∨ (scope.names.lookup y.1 = some .cell ∧ ((cellsFrom (s.heap.objs.size + 1) scope.names []).lookup y.1).isSome = true) := fun ⟨n, v⟩ hy =>
    (S.par n (List.of_mem_zip hy).1).elim .inl fun q => .inr ⟨q, PySem.W.cellsFrom_some _ _ _ (.inl q)⟩
  refine codeAny_call_function hr.depth (inK _ _ lk) rfl S.co S.gen rfl (PySem.W.codeRec_of inK hcd) (bi _ _ _ _ (wpAny_newFunctionEnv_cells S.kind kinds fun env he s1 x => ?_))
  subst he
  refine ⟨free.keeps x.toInCall.keep, codeAny_func ?_⟩
  obtain ⟨t, ht, hq⟩ := hb A outer s H vs Q E hot (hr.deeper _) h
  have I : Inv (cxH (L2N.CX P w) P w K mg base N qual scope f cdv A outer s H E p) [] (L2.start N vs) H s1 := inv_startH S pin e0 (len _ _ _ _ h) r x
  refine wpAny_mono (ht.run [] s1 (L2.start N vs) H _ I hq) (fun fl s2 hs => ?_) fun e s2 hs => hs
  cases fl with
  | ret u => obtain ⟨v, τ, G, J, rv, q⟩ := hs; exact ⟨v, G, J.os, J.bare, J.base, J.hok, rv, q⟩
  | next => obtain ⟨τ, G, J, q⟩ := hs; exact ⟨V.non, G, J.os, J.bare, J.base, J.hok, rfl, q⟩
  | brk => obtain ⟨_, _, _, q⟩ := hs; exact q.elim
  | cont => obtain ⟨_, _, _, q⟩ := hs; exact q.elim⟩
/-- a def of one name, the exception: its promise by the reading -/
def spX (K : PySem.W.Frag) (w : World) (mg : Str → Option Value) (p : Pin) (dh : Sto → RE) : Sp := fun vs H Q E => vs = [.ref p.a] ∧ ∃ ρ av S, RepS K w H ρ av S ∧ H p.d = some (.xd p.vs) ∧ p.d ∉ ρ ∧ p.d ∉ av ∧ RepKd K w H ρ av p.vs p.fs ∧ GoodF K w mg H ρ av Q E (dh S)
/-- n names -/
noncomputable def dHot (n : Nat) (b : Str → Flds → DS) : Str → Flds → Sto → RE := fun c fs S => gcR S (b c fs (List.replicate n none) S)
theorem hot_ok {x qual prm : Str} {params : Arguments} {body : List Stmt} {scope : Scope} {f : Addr} {fd : FuncData} {N : List Str} {k : Nat} {b : Str → Flds → DS} (F : FunD K x qual params body scope [] [] f fd) (S : FnScope N [prm] scope) (p : Pin) (ob : Obj) (hi : p.i = 0) (hn : 0 < N.length)
    (hb : ∀ (cdv : Value) (A : Around) (outer : List Env) (s : Shared) (H : Hp) (E : XK), RoomH k (A.deeper (envOfC qual scope s.heap.objs.size f cdv)) → LSs ⟨cxH (L2N.CX P w) P w K mg base N qual scope f cdv A outer s H E (p.a, ob), some p⟩ (WF E) body (b p.c p.fs)) :
    FnX P w K mg base (k + 1) f fd [prm] (p.a, ob) (spX K w mg p (dHot N.length b p.c p.fs)) := by
  obtain ⟨oc, od, dV, kV, doc, pm, an, cdv, ct, osl, rfl, lk, hcd, _, _⟩ := F.ex
  refine fnX_of lk hcd S (fun vs H Q E h => by rw [h.1]; rfl) fun A outer s H vs Q E hot hr h => ⟨_, hb cdv A outer s H E hr, ?_⟩
  obtain ⟨rfl, ρ, av, St, hs, h1, h2, h3, h4, g⟩ := h
  refine ⟨ρ, av, List.replicate N.length none, St, hs, ⟨by simp [L2.start]; omega, fun i t e => ?_, fun q e => ?_⟩, ?_⟩
  · rw [List.getElem?_replicate] at e
    split at e <;> cases e
  · cases e
    refine ⟨h1, h2, h3, h4, fun _ => ?_⟩
    rw [hi]
    rfl
  · unfold dHot at g
    generalize b p.c p.fs (List.replicate N.length none) St = res at g
    cases res with
    | nx sl S' => exact fun σ' H' ρ' e s' _ _ => good_gcT hs g e s' .non
    | rt t S' => exact fun v H' ρ' e s' r => good_gcT hs g e s' r
    | exc c fs sl S' => exact fun cls dd σ' H' ρ' e s' _ _ rx => good_gcX hs g e s' rx
    | bk sl S' => exact g.elim
    | ct sl S' => exact g.elim
    | bad => exact g.elim
/-- what a def's caller is told: over every exception of a class at hand -/
def OwnX (P : Program) (w : World) (K : PySem.W.Frag) (mg : Str → Option Value) (base : Heap) (k : Nat) (x : Str) (cs : List Str) (dh : Str → Flds → Sto → RE) : Prop :=
  ∃ f fd prm, mg x = some (.ref f) ∧ PySem.W.keepIn K (.ref f) = true ∧ Binds K fd [prm] [] ∧ ∀ (p : Pin) (C : Addr) (ob : Obj), p.i = 0 → p.c ∈ cs → mg p.c = some (.ref C) → Zc (.ref C) (some p.d) ob → (∃ us, ob.data = .fields us) →
    FnX P w K mg base k f fd [prm] (p.a, ob) (spX K w mg p (dh p.c p.fs))
theorem ownX_of {x prm : Str} {cs : List Str} {d : He.DefD} {f : Addr} {fd : FuncData} {N : List Str} {k : Nat} {b : Str → Flds → DS} (F : FunD K d.name d.qual d.params d.body d.scope [] [] f fd) (hm : mg x = some (.ref f)) (S : FnScope N [prm] d.scope)
    (hbi : ∀ (kV doc pm : Value) (an : Option Addr) (cdv ct : Value) (us : List Value), us.length = [prm].length → bindArgs (PySem.W.fnOf d.name d.qual d.params d.body d.scope .none kV doc pm an cdv ct) ⟨us, []⟩ = pure ([prm].zip us)) (hn : 0 < N.length)
    (hb : ∀ (p : Pin) (C : Addr) (ob : Obj), p.i = 0 → p.c ∈ cs → mg p.c = some (.ref C) → Zc (.ref C) (some p.d) ob → (∃ us, ob.data = .fields us) → ∀ (cdv : Value) (A : Around) (outer : List Env) (s : Shared) (H : Hp) (E : XK), RoomH k (A.deeper (envOfC d.qual d.scope s.heap.objs.size f cdv)) →
      PinX (cxH (L2N.CX P w) P w K mg base N d.qual d.scope f cdv A outer s H E (p.a, ob)) p C ob → LSs ⟨cxH (L2N.CX P w) P w K mg base N d.qual d.scope f cdv A outer s H E (p.a, ob), some p⟩ (WF E) d.body (b p.c p.fs)) : OwnX P w K mg base (k + 1) x cs (dHot N.length b) :=
  ⟨f, fd, prm, hm, F.kp, F.bindsN hbi, fun p C ob hi hc hmc hz hd => hot_ok F S p ob hi hn fun cdv A outer s H E hr => hb p C ob hi hc hmc hz hd cdv A outer s H E hr ⟨List.mem_cons_self, hz, hd, hmc⟩⟩
end
/-- x(e), e the name at slot i -/
def dHotC (i : Nat) (r : Sto → RE) : DE := fun sl S => match sl[i]? with
  | some none => r S
  | _ => .bad
section
variable {X : Cx} {p : Pin} {C : Addr} {ob : Obj} {W : WX} {k : Nat} {x : Str} {cs : List Str} {dh : Str → Flds → Sto → RE} {e : Expr} {q pos : Pos} {i : Nat}
theorem le_hot (P : PinX X p C ob) (hpi : p.i = i) (hc : p.c ∈ cs) (hh : X.A.handled = some (.ref p.a)) (hz : PXN.CtxN ob) (F : OwnX X.prog X.w X.K X.mg X.base k x cs dh) (hr : RoomH k X.A) (hg : Gl X x) (tk : L2N.Takes X W) (he : PE X e (tVar i))
    (hdb : (x == ("__debug__" : Str)) = false := by decide) (hst : starEach [e] X.env = (false, eval e X.env) :: starEach [] X.env := by rfl) (hpl : (backTo pos (starEach [] X.env)).any (·.1) = false := by rfl) :
    LE ⟨X, some p⟩ W (.Call (.Name x q) [e] [] pos) (dHotC i (dh p.c p.fs)) := by
  subst hpi
  obtain ⟨f, fd, prm, hm, hk, hb, hF⟩ := F
  have F := hF ⟨0, p.a, p.d, p.c, p.vs, p.fs⟩ C ob rfl hc P.mgc P.hz P.dat
  refine ⟨fun pins s σ H Q I ⟨ρ, av, sl, S, hs, hE, g⟩ => ?_⟩
  unfold dHotC at g
  obtain ⟨h1, h2, h3, h4, h5⟩ := hE.pin p rfl
  split at g
  · rename_i q1
    refine wpAny_Call_Name_kw (ld_glob I hg hm ?_ hdb)
    refine PySem.W.callWith_K (h₀ := X.base) I.ok.mod.kin hk (thn ((pa_cons he pa_nil hst).run pos pins s σ H (fun vs H1 => vs = [.ref p.a] ∧ H1 = H) I ⟨_, h5 q1, rfl, rfl⟩) fun us s1 ⟨vs, H1, I1, r, ev, eH⟩ => ⟨I1.kIn, ?_⟩) hst hpl
    subst ev eH
    obtain ⟨us0, hu⟩ := P.dat
    have hot : Hot1 X.A (p.a, ob) := ⟨hh, us0, hu, hz us0 hu⟩
    have P1 := I1.pin (p.a, ob) (List.mem_append_left _ P.mem)
    have pin : PinOk X.stack H1 s1 (p.a, ob) := ⟨P1.1, P1.2.1, fun hmm => (List.mem_cons.mp (I1.stkSub p.a hmm)).elim P1.2.2.1 P1.2.2.2.1, P1.2.2.2.2⟩
    have hl : us.length = [prm].length := by rw [← r.length]; rfl
    have b2 := hb s1 us I1.kIn (by rw [List.append_nil]; exact hl)
    rw [List.append_nil] at b2
    have sp : spX X.K X.w X.mg ⟨0, p.a, p.d, p.c, p.vs, p.fs⟩ (dh p.c p.fs) [.ref p.a] H1 Q (WE W σ) := by
      refine ⟨rfl, ρ, av, S, hs, h1, h2, h3, h4, ?_⟩
      cases hd : dh p.c p.fs S with
      | ok t S2 => rw [hd] at g; exact g
      | exc c fs S2 => rw [hd] at g; exact g
      | bad => rw [hd] at g; exact g
    refine wpAny_call (codeAny_mono (F.run X.A X.stack s1 H1 ⟨us, []⟩ us [.ref p.a] Q (WE W σ) hr hot pin I1.env0 b2 r sp) fun res s2 hq => ?_)
    cases res with
    | error er => exact L2N.passAt tk σ pins H1 s1 er s2 I1 hq
    | ok fl =>
      cases fl with
      | ret u => exact I1.after hq
      | next => exact hq.elim
      | brk => exact hq.elim
      | cont => exact hq.elim
  · exact g.elim
end
end Dn

/-! facts for isinstance of errors; isinstance(x, (T1, T2)) -/
namespace Dn
open PySem PySem.Spec PyProof.Rows L2
theorem roomH_m {k : Nat} {A : Around} (r : Room k A) (h : Option Value) : L2H.RoomH k (A.mark h) := ⟨r.dp, r.un⟩
theorem lookup_key {α : Type} {k : Str} {b : α} {m : List (Str × α)} (h : m.lookup k = some b) : k ∈ m.map (·.1) := List.mem_map.mpr ⟨_, lookup_mem h, rfl⟩
def excCB (K : PySem.W.Frag) (D : Addr) : Bool :=
  decide (PySem.W.findIn K (.ref D) "__getattribute__" = some (some (.builtin "BaseException.__getattribute__"))) && (decide (PySem.W.findIn K (.ref D) "__getattr__" = some none) && (decide (PySem.W.subIn K (.ref D) (.type "BaseException") = some true) && (PySem.W.hasDictIn K D &&
  (decide (PySem.W.findIn K (.ref D) "__class__" = some (some (.builtin "object.__class__"))) && (decide (PySem.W.specialIn K (.builtin "object.__class__") "__get__" = some (some (.builtin "getset_descriptor.__get__"))) && (decide (PySem.W.takesIn K (.builtin "object.__class__") = some true) && decide (PySem.W.mroIn K D (.type "object") = some true)))))))
theorem excCB_ok {K : PySem.W.Frag} {D : Addr} (h : excCB K D = true) : ExcC K D := by
  unfold excCB at h
  simp only [Bool.and_eq_true, decide_eq_true_eq] at h
  obtain ⟨h1, h2, h3, h4, h5, h6, h7, h8⟩ := h
  exact ⟨h1, h2, h3, h4, h5, h6, h7, h8⟩
def isB (K : PySem.W.Frag) (x : Str) (m : List (Str × Bool)) : Bool := m.all fun p => excCB K (He.ga K p.1) && decide (PySem.W.kitOne K (.ref (He.ga K p.1)) (.ref (He.ga K x)) = some p.2)
theorem isx_of {K : PySem.W.Frag} {mg : Str → Option Value} {x : Str} {m : List (Str × Bool)} (hx : mg x = some (.ref (He.ga K x))) (hg : ∀ p ∈ m, mg p.1 = some (.ref (He.ga K p.1))) (h : isB K x m = true) : IsX K mg x m := by
  refine ⟨_, hx, fun k b C hk hC => ?_⟩
  have hm := lookup_mem hk
  have e := hg _ hm
  dsimp only at e
  rw [hC] at e
  cases e
  have q := List.all_eq_true.mp h _ hm
  simp only [Bool.and_eq_true, decide_eq_true_eq] at q
  exact ⟨excCB_ok q.1, q.2⟩
/-- the fields fs can be read of the classes cs -/
def XfT (K : PySem.W.Frag) (mg : Str → Option Value) (cs fs : List Str) : Prop := ∀ k ∈ cs, ∀ C, mg k = some (.ref C) → XfC K C ∧ ∀ f ∈ fs, PySem.W.findIn K (.ref C) f = some none
def xfTB (K : PySem.W.Frag) (cs fs : List Str) : Bool := cs.all fun k => xfB K (He.ga K k) && fs.all fun f => decide (PySem.W.findIn K (.ref (He.ga K k)) f = some none)
theorem xft_of {K : PySem.W.Frag} {mg : Str → Option Value} {cs fs : List Str} (hg : ∀ k ∈ cs, mg k = some (.ref (He.ga K k))) (h : xfTB K cs fs = true) : XfT K mg cs fs := by
  intro k hk C hC
  have e := hg k hk
  rw [hC] at e
  cases e
  have q := List.all_eq_true.mp h _ hk
  simp only [Bool.and_eq_true, List.all_eq_true, decide_eq_true_eq] at q
  exact ⟨xfB_ok q.1, q.2⟩
/-! ### isinstance(e, (T1, T2)) -/
def dIsi2 (T1 T2 : String) (d : DE) : DE := fun sl S => (d sl S).bind fun x S1 => match tyT S1 (fz x) with
  | some n => .ok (.bl (isaB n T1 || isaB n T2)) S1
  | none => .bad
section
variable {X : DX} {W : WX}
theorem TyX.upd_ {K : PySem.W.Frag} {w : World} {H : Hp} {ρ av : List Addr} {S : Sto} {v : V} {t : T} {n : String} {tp : Addr} {o : HO} (hs : RepS K w H ρ av S) (r : RepV K w H ρ av v t) (h : tyT S t = some n) (ht : H tp = none) : TyX K (upd H tp o) v (.type n) := by
  have e := Ext.laid hs ht o
  exact (ty_rep (hs.laid ht o) (r.ext e) h).1
theorem le_isi2 {T1 T2 : String} {x y : Str} {p p2 p3 pos tpos : Pos} {k : Nat} {e : Expr} {d : DE} (hb1 : T1 ∈ ["bool", "int", "str", "tuple", "list", "dict"]) (hb2 : T2 ∈ ["bool", "int", "str", "tuple", "list", "dict"]) (hg : Gl X "isinstance") (hm : X.mg "isinstance" = none)
    (hgx : Gl X x) (hmx : X.mg x = none) (hgy : Gl X y) (hmy : X.mg y = none) (hvx : bootBuiltins x = some (.type T1)) (hvy : bootBuiltins y = some (.type T2)) (h : LE X W e d)
    (he : starEach [e, .Tuple [.Name x p2, .Name y p3] k tpos] X.env = (false, eval e X.env) :: starEach [.Tuple [.Name x p2, .Name y p3] k tpos] X.env := by rfl) (hnx : x ≠ "__name__" := by decide) (hny : y ≠ "__name__" := by decide)
    (hdx : (x == ("__debug__" : Str)) = false := by decide) (hdy : (y == ("__debug__" : Str)) = false := by decide) : LE X W (.Call (.Name "isinstance" p) [e, .Tuple [.Name x p2, .Name y p3] k tpos] [] pos) (dIsi2 T1 T2 d) :=
  (pe_callB (r := rIsiT X.K) (he := he) call_isiT hg hm PyProof.Rows.boot_isinstance (pa_cons h (pa_cons (pe_tup (pa_cons (pe_bltn (v := .ty T1) hgx hmx hvx rfl hnx hdx) (pa_cons (pe_bltn (v := .ty T2) hgy hmy hvy rfl hny hdy) pa_nil))) pa_nil) he)).imp fun σ H Q ⟨ρ, av, sl, S, hs, hE, g⟩ => ⟨ρ, av, sl, S, hs, hE, GoodE.step g fun t S1 _ v H1 ρ1 e1 s1 r1 g1 => by
    cases hty : tyT S1 (fz t) with
    | none => simp only [hty] at g1; exact g1.elim
    | some n =>
      simp only [hty] at g1
      obtain ⟨_, k2⟩ := ty_rep s1 r1.toV hty
      refine ⟨by show 2 ≤ sizeLine; rw [sizeLine_eq]; omega, fun tp htp => ?_⟩
      have hany : PySem.W.kitAny X.K (.type n) [.type T1, .type T2] = some (isaB n T1 || isaB n T2) := by
        refine kitAny_cons (kit_ty (kit_is k2 hb1)) (fun q1 => kitAny_cons (kit_ty (kit_is k2 hb2)) (fun q2 => ?_) fun q2 => ?_) fun q1 => ?_
        · rw [q1, q2]; rfl
        · rw [q1, q2]; rfl
        · rw [q1]; rfl
      exact ⟨v, tp, [.ty T1, .ty T2], .type n, [.type T1, .type T2], _, rfl, upd_same, .cons (.ty T1) (.cons (.ty T2) .nil), TyX.upd_ s1 r1.toV hty htp, hany, g1 _ _ ρ1 (Ext.laid s1 htp _) (s1.laid htp _) (.bl _)⟩⟩
end
end Dn

/-! a call without arguments -/
namespace Dn
open PySem PySem.Spec L2
def dOwn0 (d : DF) : DE := fun _ S => d [] S
section
variable {X : DX} {W : WX}
theorem le_call0 {k : Nat} {d : DF} {x : Str} {p pos : Pos} (F : Own X.prog X.w X.K X.mg X.base k x [] d) (hr : Room k X.A) (hg : Gl X x) (tk : L2N.Takes X W) (hdb : (x == ("__debug__" : Str)) = false := by decide) : LE X W (.Call (.Name x p) [] [] pos) (dOwn0 d) := by
  obtain ⟨f, fd, h1, h2, h3, h4⟩ := F
  have F2 : OwnK X.prog X.w X.K X.mg X.base k x [] d 0 [] [] := ⟨f, fd, h1, h2, ?_, h4⟩
  · exact (le_callK0 F2 hr hg tk lk_nil rfl rfl rfl hdb rfl rfl).imp fun σ H Q q => q
  · refine { to := fun s us ws hK l1 l2 => ?_, rel := fun {vs us zs ws} _ _ => .nil }
    obtain rfl := List.length_eq_zero_iff.mp l1
    obtain rfl : ws = [] := List.length_eq_zero_iff.mp l2
    exact h3 s [] hK rfl
end
end Dn

namespace Pk
open PySem PySem.Spec L2 Dn
noncomputable def b_put_kind : DS := (dSeq (dSet 4 (dBin fAdd (dBin fAdd (dSl (dBin fIx (dVar 0) (dVar 1)) dNoPart (dPart (dVar 2))) (dTup (dCons (dVar 3) dNil))) (dSl (dBin fIx (dVar 0) (dVar 1)) (dPart (dBin fAdd (dVar 2) (dC (.int 1)))) dNoPart)))
  (dRet (dBin fAdd (dBin fAdd (dSl (dVar 0) dNoPart (dPart (dVar 1))) (dTup (dCons (dVar 4) dNil))) (dSl (dVar 0) (dPart (dBin fAdd (dVar 1) (dC (.int 1)))) dNoPart))))
noncomputable def F_put_kind : DF := dFun 4 5 b_put_kind
def c_STEPS : T := .dic (([("e", .ktup [.int 0, .int 1]), ("n", .ktup [.int (-1), .int 0]), ("s", .ktup [.int 1, .int 0]), ("w", .ktup [.int 0, .int (-1)])] : List (Str × T)).map fun p => (Sum.inr p.1, p.2))
@[simp] theorem fz_c_STEPS : fz c_STEPS = c_STEPS := id rfl
noncomputable def b_next_cell : DS := (dSeq (dAsg (dBin fIx (dC c_STEPS) (dVar 2)) (gT 2 (gsCons (gN 3) (gsCons (gN 4) gsNil))))
  (dRet (dTup (dCons (dBin fAdd (dVar 0) (dVar 3)) (dCons (dBin fAdd (dVar 1) (dVar 4)) dNil)))))
noncomputable def F_next_cell : DF := dFun 3 5 b_next_cell
noncomputable def b_has_cell : DS := (dRet (dAndV (dChain fLE fLT (dC (.int 0)) (dVar 1) (dCall fLen (dCons (dVar 0) dNil))) (dChain fLE fLT (dC (.int 0)) (dVar 2) (dCall fLen (dCons (dBin fIx (dVar 0) (dC (.int 0))) dNil)))))
noncomputable def F_has_cell : DF := dFun 3 3 b_has_cell
noncomputable def b_is_open : DS := (dRet (dAndV (dOwn 3 F_has_cell (dCons (dVar 0) (dCons (dVar 1) (dCons (dVar 2) dNil)))) (dBin (fEq true) (dBin fIx (dBin fIx (dVar 0) (dVar 1)) (dVar 2)) (dC (.str "")))))
noncomputable def F_is_open : DF := dFun 3 3 b_is_open
def c_POINTS : T := .str "ensw"
@[simp] theorem fz_c_POINTS : fz c_POINTS = c_POINTS := id rfl
def c_OPPOSITE : T := .dic (([("e", .str "w"), ("n", .str "s"), ("s", .str "n"), ("w", .str "e")] : List (Str × T)).map fun p => (Sum.inr p.1, p.2))
@[simp] theorem fz_c_OPPOSITE : fz c_OPPOSITE = c_OPPOSITE := id rfl
noncomputable def L_facing_cell_0 : DS := (dSeq (dAsg (dOwn 3 F_next_cell (dCons (dVar 1) (dCons (dVar 2) (dCons (dVar 4) dNil)))) (gT 2 (gsCons (gN 5) (gsCons (gN 6) gsNil))))
  (dIf (dTru (dOwn 3 F_is_open (dCons (dVar 0) (dCons (dVar 5) (dCons (dVar 6) dNil)))))
  (dExpr (dMeth "list" fAppend (dVar 3) (dCons (dTup (dCons (dVar 5) (dCons (dVar 6) (dCons (dBin fIx (dC c_OPPOSITE) (dVar 4)) dNil)))) dNil)))
  dNext))
noncomputable def b_facing_cell : DS := (dSeq (dSetM 3 (dLst dNil))
  (dSeq (dFor (dIt (dC c_POINTS)) (gN 4) L_facing_cell_0)
  (dRet (dCall fTuple (dCons (dCall fSorted (dCons (dVar 3) dNil)) dNil)))))
noncomputable def F_facing_cell : DF := dFun 3 7 b_facing_cell
noncomputable def b_ask_of : DS := (dSeq (dAsg (dVar 1) (gT 3 (gsCons (gN 2) (gsCons (gN 3) (gsCons (gN 4) gsNil)))))
  (dSeq (dIf (dTest (dBin (fEq false) (dVar 2) (dC (.str "out"))))
  (dRet (dTup (dCons (dVar 0) (dCons (dTup (dCons (dVar 3) dNil)) (dCons (dVar 4) dNil)))))
  dNext)
  (dSeq (dIf (dTest (dBin (fEq false) (dVar 2) (dC (.str "meet"))))
  (dRet (dTup (dCons (dVar 0) (dCons (dTup (dCons (dVar 3) dNil)) (dCons (dTup (dCons (dVar 4) dNil)) dNil)))))
  dNext)
  (dRet (dTup (dCons (dOwn 4 F_put_kind (dCons (dVar 0) (dCons (dBin fIx (dVar 4) (dC (.int 0))) (dCons (dBin fIx (dVar 4) (dC (.int 1))) (dCons (dC (.str "")) dNil))))) (dCons (dTup (dCons (dVar 3) dNil)) (dCons (dOwn 3 F_facing_cell (dCons (dVar 0) (dCons (dBin fIx (dVar 4) (dC (.int 0))) (dCons (dBin fIx (dVar 4) (dC (.int 1))) dNil)))) dNil))))))))
noncomputable def F_ask_of : DF := dFun 2 5 b_ask_of
noncomputable def b__law_sort : DS := (dSeq (dSet 1 (dLst (dCons (dBin (fIs false) (dVar 0) (dC .non)) (dCons (dIsi "bool" (dVar 0)) (dCons (dIsi "int" (dVar 0)) (dCons (dIsi "str" (dVar 0)) (dCons (dIsi "tuple" (dVar 0)) (dCons (dIsi "list" (dVar 0)) dNil))))))))
  (dRet (dOrElse (dMeth "str" fIndexS (dBin fAdd (dVar 1) (dLst (dCons (dC (.bl true)) dNil))) (dCons (dC (.bl true)) dNil)) (dMeth "list" fIndexL (dBin fAdd (dVar 1) (dLst (dCons (dC (.bl true)) dNil))) (dCons (dC (.bl true)) dNil)))))
noncomputable def F__law_sort : DF := dFun 1 2 b__law_sort
noncomputable def L__law_same_0 : DS := (dExpr (dMeth "list" fAppend (dVar 2) (dCons (dTup (dCons (dBin fIx (dVar 3) (dVar 6)) (dCons (dBin fIx (dVar 4) (dVar 6)) dNil))) dNil)))
noncomputable def L__law_same_1 : DS := (dSeq (dAsg (dMeth0 "list" fPop (dVar 2)) (gT 2 (gsCons (gN 3) (gsCons (gN 4) gsNil))))
  (dSeq (dSet 5 (dOwn 1 F__law_sort (dCons (dVar 4) dNil)))
  (dSeq (dIf (dTest (dBin (fEq true) (dOwn 1 F__law_sort (dCons (dVar 3) dNil)) (dVar 5)))
  (dRet (dC (.bl false)))
  dNext)
  (dIf (dTest (dBin fLT (dVar 5) (dC (.int 4))))
  (dIf (dTest (dBin (fEq true) (dVar 3) (dVar 4)))
  (dRet (dC (.bl false)))
  dNext)
  (dSeq (dIf (dTest (dBin (fEq true) (dCall fLen (dCons (dVar 3) dNil)) (dCall fLen (dCons (dVar 4) dNil))))
  (dRet (dC (.bl false)))
  dNext)
  (dFor (dRng1 (dCons (dCall fLen (dCons (dVar 4) dNil)) dNil)) (gN 6) L__law_same_0))))))
noncomputable def b__law_same : DS := (dSeq (dSetM 2 (dLst (dCons (dTup (dCons (dVar 0) (dCons (dVar 1) dNil))) dNil)))
  (dSeq (dWhile (dTest (dBin fGT (dCall fLen (dCons (dVar 2) dNil)) (dC (.int 0)))) L__law_same_1)
  (dRet (dC (.bl true)))))
noncomputable def F__law_same : DF := dFun 2 7 b__law_same
noncomputable def b_size_of : DS := (dRet (dTup (dCons (dCall fLen (dCons (dVar 0) dNil)) (dCons (dCall fLen (dCons (dBin fIx (dVar 0) (dC (.int 0))) dNil)) dNil))))
noncomputable def F_size_of : DF := dFun 1 1 b_size_of
noncomputable def L_all_cells_0 : DS := (dExpr (dMeth "list" fAppend (dVar 3) (dCons (dTup (dCons (dVar 4) (dCons (dVar 5) dNil))) dNil)))
noncomputable def L_all_cells_1 : DS := (dFor (dRng1 (dCons (dVar 2) dNil)) (gN 5) L_all_cells_0)
noncomputable def b_all_cells : DS := (dSeq (dAsg (dOwn 1 F_size_of (dCons (dVar 0) dNil)) (gT 2 (gsCons (gN 1) (gsCons (gN 2) gsNil))))
  (dSeq (dSetM 3 (dLst dNil))
  (dSeq (dFor (dRng1 (dCons (dVar 1) dNil)) (gN 4) L_all_cells_1)
  (dRet (dVar 3)))))
noncomputable def F_all_cells : DF := dFun 1 6 b_all_cells
noncomputable def C_cells_of_0 : DE := (dLc (dIt (dOwn 1 F_all_cells (dCons (dVar 0) dNil))) (gT 2 (gsCons (gN 1) (gsCons (gN 2) gsNil))) (dTest (dBin (fEq true) (dBin fIx (dBin fIx (dVar 0) (dVar 1)) (dVar 2)) (dC (.str "")))) (dTup (dCons (dVar 1) (dCons (dVar 2) dNil))) [1, 2])
noncomputable def b_cells_of : DS := (dRet (dCall fTuple (dCons C_cells_of_0 dNil)))
noncomputable def F_cells_of : DF := dFun 1 3 b_cells_of
noncomputable def L_sides_of_0 : DS := (dExpr (dMeth "list" fAppend (dVar 1) (dCons (dTup (dCons (dVar 2) (dCons (dVar 3) (dCons (dVar 4) dNil)))) dNil)))
noncomputable def L_sides_of_1 : DS := (dFor (dIt (dC c_POINTS)) (gN 4) L_sides_of_0)
noncomputable def b_sides_of : DS := (dSeq (dSetM 1 (dLst dNil))
  (dSeq (dFor (dIt (dOwn 1 F_cells_of (dCons (dVar 0) dNil))) (gT 2 (gsCons (gN 2) (gsCons (gN 3) gsNil))) L_sides_of_1)
  (dRet (dCall fTuple (dCons (dVar 1) dNil)))))
noncomputable def F_sides_of : DF := dFun 1 5 b_sides_of
noncomputable def b_other_side : DS := (dSeq (dAsg (dVar 1) (gT 3 (gsCons (gN 2) (gsCons (gN 3) (gsCons (gN 4) gsNil)))))
  (dSeq (dAsg (dOwn 3 F_next_cell (dCons (dVar 2) (dCons (dVar 3) (dCons (dVar 4) dNil)))) (gT 2 (gsCons (gN 5) (gsCons (gN 6) gsNil))))
  (dSeq (dIf (dNot (dTru (dOwn 3 F_is_open (dCons (dVar 0) (dCons (dVar 5) (dCons (dVar 6) dNil))))))
  (dRet (dC .non))
  dNext)
  (dRet (dTup (dCons (dVar 5) (dCons (dVar 6) (dCons (dBin fIx (dC c_OPPOSITE) (dVar 4)) dNil))))))))
noncomputable def F_other_side : DF := dFun 2 7 b_other_side
noncomputable def C_ends_of_0 : DE := (dLc (dIt (dOwn 1 F_sides_of (dCons (dVar 0) dNil))) (gN 1) (dTest (dBin (fIs false) (dOwn 2 F_other_side (dCons (dVar 0) (dCons (dVar 1) dNil))) (dC .non))) (dVar 1) [1])
noncomputable def b_ends_of : DS := (dRet (dCall fTuple (dCons C_ends_of_0 dNil)))
noncomputable def F_ends_of : DF := dFun 1 2 b_ends_of
noncomputable def C_denial_of_0 : DE := (dLc (dIt (dOwn 1 F_ends_of (dCons (dVar 2) dNil))) (gN 6) (dAnd (dTest (dBin (fIn true) (dVar 6) (dVar 3))) (dTest (dBin (fIn true) (dVar 6) (dVar 4)))) (dVar 6) [6])
noncomputable def b_denial_of : DS := (dSeq (dAsg (dOwn 2 F_ask_of (dCons (dVar 0) (dCons (dVar 1) dNil))) (gT 3 (gsCons (gN 2) (gsCons (gN 3) (gsCons (gN 4) gsNil)))))
  (dSeq (dSet 5 C_denial_of_0)
  (dRet (dTup (dCons (dVar 2) (dCons (dVar 3) (dCons (dCall fTuple (dCons (dVar 5) dNil)) dNil)))))))
noncomputable def F_denial_of : DF := dFun 2 7 b_denial_of
noncomputable def b__law_dip : DS := (dSeq (dIf (dTest (dBin fLT (dVar 1) (dC (.int 2))))
  (dRet (dC (.int 0)))
  dNext)
  (dSeq (dIf (dTest (dBin fGT (dCall fLen (dCons (dBin fIx (dVar 0) (dC (.int 1))) dNil)) (dC (.int 0))))
  (dSeq (dSet 2 (dBin (fInt (fun _ j => 0 < j) (· % ·)) (dCall fInt1 (dCons (dBin fIx (dBin fIx (dVar 0) (dC (.int 1))) (dUn fNeg (dC (.int 1)))) dNil)) (dVar 1)))
  (dSeq (dAsg (dBin (fInt CDivW (· / ·)) (dBin fIx (dBin fIx (dVar 0) (dC (.int 1))) (dUn fNeg (dC (.int 1)))) (dVar 1)) (gSubD (dBin fIx (dVar 0) (dC (.int 1))) (dUn fNeg (dC (.int 1)))))
  (dSeq (dIf (dTest (dBin (fEq false) (dBin fIx (dBin fIx (dVar 0) (dC (.int 1))) (dUn fNeg (dC (.int 1)))) (dC (.int 0))))
  (dExpr (dMeth0 "list" fPop (dBin fIx (dVar 0) (dC (.int 1)))))
  dNext)
  (dRet (dVar 2)))))
  dNext)
  (dSeq (dAsg (dBin (fInt (fun _ j => 0 < j) (· % ·)) (dCall fInt1 (dCons (dBin fAdd (dBin fMul (dBin fIx (dVar 0) (dC (.int 0))) (dC (.int 46649))) (dC (.int 5501))) dNil)) (dC (.int 2147483629))) (gSubD (dVar 0) (dC (.int 0))))
  (dRet (dBin (fInt (fun _ j => 0 < j) (· % ·)) (dCall fInt1 (dCons (dBin (fInt CDivW (· / ·)) (dBin fIx (dVar 0) (dC (.int 0))) (dC (.int 53))) dNil)) (dVar 1))))))
noncomputable def F__law_dip : DF := dFun 2 3 b__law_dip
noncomputable def C__law_cells_0 : DE := (dLc (dRng1 (dCons (dCall fLen (dCons (dBin fIx (dVar 0) (dC (.int 0))) dNil)) dNil)) (gN 3) (dTest (dBin (fEq true) (dBin fIx (dBin fIx (dVar 0) (dVar 2)) (dVar 3)) (dC (.str "")))) (dTup (dCons (dVar 2) (dCons (dVar 3) dNil))) [3])
noncomputable def L__law_cells_1 : DS := (dSet 1 (dBin fAdd (dVar 1) C__law_cells_0))
noncomputable def b__law_cells : DS := (dSeq (dSet 1 (dLst dNil))
  (dSeq (dFor (dRng1 (dCons (dCall fLen (dCons (dVar 0) dNil)) dNil)) (gN 2) L__law_cells_1)
  (dRet (dVar 1))))
noncomputable def F__law_cells : DF := dFun 1 4 b__law_cells
noncomputable def C__law_sides_0 : DE := (dLc (dIt (dC (.str "ensw"))) (gN 3) dYes (dBin fAdd (dVar 2) (dTup (dCons (dVar 3) dNil))) [3])
noncomputable def L__law_sides_1 : DS := (dSet 1 (dBin fAdd (dVar 1) C__law_sides_0))
noncomputable def b__law_sides : DS := (dSeq (dSet 1 (dLst dNil))
  (dSeq (dFor (dIt (dOwn 1 F__law_cells (dCons (dVar 0) dNil))) (gN 2) L__law_sides_1)
  (dRet (dVar 1))))
noncomputable def F__law_sides : DF := dFun 1 4 b__law_sides
noncomputable def b__law_beyond : DS := (dSeq (dAsg (dVar 1) (gT 3 (gsCons (gN 2) (gsCons (gN 3) (gsCons (gN 4) gsNil)))))
  (dSeq (dSet 2 (dBin fAdd (dVar 2) (dGet2 (dDisp [((dC (.str "n")), (dUn fNeg (dC (.int 1)))), ((dC (.str "s")), (dC (.int 1)))]) (dVar 4) (dC (.int 0)))))
  (dSeq (dSet 3 (dBin fAdd (dVar 3) (dGet2 (dDisp [((dC (.str "e")), (dC (.int 1))), ((dC (.str "w")), (dUn fNeg (dC (.int 1))))]) (dVar 4) (dC (.int 0)))))
  (dSeq (dIf (dOr (dTest (dBin fLT (dVar 2) (dC (.int 0)))) (dOr (dTest (dBin fLT (dVar 3) (dC (.int 0)))) (dOr (dTest (dBin fGE (dVar 2) (dCall fLen (dCons (dVar 0) dNil)))) (dOr (dTest (dBin fGE (dVar 3) (dCall fLen (dCons (dBin fIx (dVar 0) (dC (.int 0))) dNil)))) (dTest (dBin (fEq false) (dBin fIx (dBin fIx (dVar 0) (dVar 2)) (dVar 3)) (dC (.str ""))))))))
  (dRet (dC .non))
  dNext)
  (dRet (dTup (dCons (dVar 2) (dCons (dVar 3) (dCons (dBin fIx (dDisp [((dC (.str "e")), (dC (.str "w"))), ((dC (.str "w")), (dC (.str "e"))), ((dC (.str "n")), (dC (.str "s"))), ((dC (.str "s")), (dC (.str "n")))]) (dVar 4)) dNil)))))))))
noncomputable def F__law_beyond : DF := dFun 2 5 b__law_beyond
noncomputable def C__law_ends_0 : DE := (dLc (dIt (dOwn 1 F__law_sides (dCons (dVar 0) dNil))) (gN 1) (dTest (dBin (fIs false) (dOwn 2 F__law_beyond (dCons (dVar 0) (dCons (dVar 1) dNil))) (dC .non))) (dVar 1) [1])
noncomputable def b__law_ends : DS := (dRet C__law_ends_0)
noncomputable def F__law_ends : DF := dFun 1 2 b__law_ends
noncomputable def L__law_stirred_0 : DS := (dExpr (dMeth "list" fAppend (dVar 3) (dCons (dMeth "list" fPopAt (dVar 2) (dCons (dOwn 2 F__law_dip (dCons (dVar 0) (dCons (dCall fLen (dCons (dVar 2) dNil)) dNil))) dNil)) dNil)))
noncomputable def b__law_stirred : DS := (dSeq (dSetM 2 (dCall fList (dCons (dVar 1) dNil)))
  (dSeq (dSetM 3 (dLst dNil))
  (dSeq (dWhile (dTest (dBin fGT (dCall fLen (dCons (dVar 2) dNil)) (dC (.int 0)))) L__law_stirred_0)
  (dRet (dVar 3)))))
noncomputable def F__law_stirred : DF := dFun 2 4 b__law_stirred
noncomputable def C__law_shut_0 : DE := (dLc (dRng1 (dCons (dCall fLen (dCons (dBin fIx (dVar 0) (dC (.int 0))) dNil)) dNil)) (gN 4) dYes (dIfE (dTest (dBin (fEq false) (dTup (dCons (dVar 3) (dCons (dVar 4) dNil))) (dVar 1))) (dC (.str "")) (dBin fIx (dBin fIx (dVar 0) (dVar 3)) (dVar 4))) [4])
noncomputable def L__law_shut_1 : DS := (dExpr (dMeth "list" fAppend (dVar 2) (dCons (dCall fTuple (dCons C__law_shut_0 dNil)) dNil)))
noncomputable def b__law_shut : DS := (dSeq (dSetM 2 (dLst dNil))
  (dSeq (dFor (dRng1 (dCons (dCall fLen (dCons (dVar 0) dNil)) dNil)) (gN 3) L__law_shut_1)
  (dRet (dCall fTuple (dCons (dVar 2) dNil)))))
noncomputable def F__law_shut : DF := dFun 2 5 b__law_shut
noncomputable def L__law_ask_0 : DS := (dSeq (dSet 5 (dOwn 2 F__law_beyond (dCons (dVar 0) (dCons (dVar 4) dNil))))
  (dIf (dAnd (dTest (dBin (fIs true) (dVar 5) (dC .non))) (dTest (dBin (fEq false) (dSl (dVar 5) dNoPart (dPart (dC (.int 2)))) (dBin fIx (dVar 1) (dC (.int 2))))))
  (dExpr (dMeth "list" fAppend (dVar 3) (dCons (dVar 4) dNil)))
  dNext))
noncomputable def b__law_ask : DS := (dSeq (dIf (dTest (dBin (fEq false) (dBin fIx (dVar 1) (dC (.int 0))) (dC (.str "out"))))
  (dRet (dTup (dCons (dVar 0) (dCons (dTup (dCons (dBin fIx (dVar 1) (dC (.int 1))) dNil)) (dCons (dBin fIx (dVar 1) (dC (.int 2))) dNil)))))
  dNext)
  (dSeq (dIf (dTest (dBin (fEq false) (dBin fIx (dVar 1) (dC (.int 0))) (dC (.str "meet"))))
  (dRet (dTup (dCons (dVar 0) (dCons (dTup (dCons (dBin fIx (dVar 1) (dC (.int 1))) dNil)) (dCons (dTup (dCons (dBin fIx (dVar 1) (dC (.int 2))) dNil)) dNil)))))
  dNext)
  (dSeq (dSet 2 (dOwn 2 F__law_shut (dCons (dVar 0) (dCons (dBin fIx (dVar 1) (dC (.int 2))) dNil))))
  (dSeq (dSetM 3 (dLst dNil))
  (dSeq (dFor (dIt (dOwn 1 F__law_ends (dCons (dVar 2) dNil))) (gN 4) L__law_ask_0)
  (dRet (dTup (dCons (dVar 2) (dCons (dTup (dCons (dBin fIx (dVar 1) (dC (.int 1))) dNil)) (dCons (dCall fTuple (dCons (dVar 3) dNil)) dNil))))))))))
noncomputable def F__law_ask : DF := dFun 2 6 b__law_ask
noncomputable def C__law_denial_0 : DE := (dLc (dIt (dOwn 1 F__law_ends (dCons (dVar 1) dNil))) (gN 4) (dAnd (dTest (dBin (fIn true) (dVar 4) (dVar 2))) (dTest (dBin (fIn true) (dVar 4) (dVar 3)))) (dVar 4) [4])
noncomputable def b__law_denial : DS := (dSeq (dAsg (dVar 0) (gT 3 (gsCons (gN 1) (gsCons (gN 2) (gsCons (gN 3) gsNil)))))
  (dRet (dTup (dCons (dVar 1) (dCons (dVar 2) (dCons (dCall fTuple (dCons C__law_denial_0 dNil)) dNil))))))
noncomputable def F__law_denial : DF := dFun 1 5 b__law_denial
noncomputable def b__law_right : DS := (dSeq (dSet 2 (dOwn 2 F__law_ask (dCons (dVar 0) (dCons (dVar 1) dNil))))
  (dRet (dAndV (dOwn 2 F__law_same (dCons (dOwn 2 F_ask_of (dCons (dVar 0) (dCons (dVar 1) dNil))) (dCons (dVar 2) dNil))) (dOwn 2 F__law_same (dCons (dOwnK 0 2 [1, 0] 2 F_denial_of dNil (dCons (dVar 1) (dCons (dVar 0) dNil))) (dCons (dOwn 1 F__law_denial (dCons (dVar 2) dNil)) dNil))))))
noncomputable def F__law_right : DF := dFun 2 3 b__law_right
noncomputable def b__law_whole : DS := (dRet (dAndV (dIsi "int" (dVar 0)) (dNotV (dIsi "bool" (dVar 0)))))
noncomputable def F__law_whole : DF := dFun 1 1 b__law_whole
noncomputable def L__law_same_v1_0 : DS := (dExpr (dMeth "list" fAppend (dVar 2) (dCons (dTup (dCons (dBin fIx (dVar 3) (dVar 5)) (dCons (dBin fIx (dVar 4) (dVar 5)) dNil))) dNil)))
noncomputable def L__law_same_v1_1 : DS := (dSeq (dAsg (dMeth0 "list" fPop (dVar 2)) (gT 2 (gsCons (gN 3) (gsCons (gN 4) gsNil))))
  (dIf (dTest (dBin (fIs false) (dVar 4) (dC .non)))
  (dIf (dTest (dBin (fIs true) (dVar 3) (dC .non)))
  (dRet (dC (.bl false)))
  dNext)
  (dIf (dTru (dIsi "bool" (dVar 4)))
  (dIf (dOr (dNot (dTru (dIsi "bool" (dVar 3)))) (dTest (dBin (fEq true) (dVar 3) (dVar 4))))
  (dRet (dC (.bl false)))
  dNext)
  (dIf (dTru (dIsi "str" (dVar 4)))
  (dIf (dOr (dNot (dTru (dIsi "str" (dVar 3)))) (dTest (dBin (fEq true) (dVar 3) (dVar 4))))
  (dRet (dC (.bl false)))
  dNext)
  (dIf (dTru (dIsi "int" (dVar 4)))
  (dIf (dOr (dNot (dTru (dOwn 1 F__law_whole (dCons (dVar 3) dNil)))) (dTest (dBin (fEq true) (dVar 3) (dVar 4))))
  (dRet (dC (.bl false)))
  dNext)
  (dSeq (dIf (dOr (dAnd (dTru (dIsi "list" (dVar 4))) (dNot (dTru (dIsi "list" (dVar 3))))) (dAnd (dTru (dIsi "tuple" (dVar 4))) (dNot (dTru (dIsi "tuple" (dVar 3))))))
  (dRet (dC (.bl false)))
  dNext)
  (dSeq (dIf (dTest (dBin (fEq true) (dCall fLen (dCons (dVar 3) dNil)) (dCall fLen (dCons (dVar 4) dNil))))
  (dRet (dC (.bl false)))
  dNext)
  (dFor (dRng1 (dCons (dCall fLen (dCons (dVar 4) dNil)) dNil)) (gN 5) L__law_same_v1_0))))))))
noncomputable def b__law_same_v1 : DS := (dSeq (dSetM 2 (dLst (dCons (dTup (dCons (dVar 0) (dCons (dVar 1) dNil))) dNil)))
  (dSeq (dWhile (dTest (dBin fGT (dCall fLen (dCons (dVar 2) dNil)) (dC (.int 0)))) L__law_same_v1_1)
  (dRet (dC (.bl true)))))
noncomputable def F__law_same_v1 : DF := dFun 2 6 b__law_same_v1
def c_LETTERS : T := .str "dsu"
@[simp] theorem fz_c_LETTERS : fz c_LETTERS = c_LETTERS := id rfl
noncomputable def b_is_whole : DS := (dRet (dAndV (dIsi "int" (dVar 0)) (dNotV (dIsi "bool" (dVar 0)))))
noncomputable def F_is_whole : DF := dFun 1 1 b_is_whole
noncomputable def b_look_for_cell : DS := (dIf (dOr (dNot (dTru (dOwn 1 F_is_whole (dCons (dVar 1) dNil)))) (dOr (dNot (dTru (dOwn 1 F_is_whole (dCons (dVar 2) dNil)))) (dNot (dTru (dOwn 3 F_has_cell (dCons (dVar 0) (dCons (dVar 1) (dCons (dVar 2) dNil))))))))
  (dRaise "BadStep" 2 [("word", 1)] (dCons (dC (.str "cell")) dNil))
  dNext)
noncomputable def F_look_for_cell : DF := dFun 3 3 b_look_for_cell
noncomputable def b_is_number : DS := (dRet (dAndV (dOwn 1 F_is_whole (dCons (dVar 0) dNil)) (dBin fGE (dVar 0) (dC (.int 0)))))
noncomputable def F_is_number : DF := dFun 1 1 b_is_number
noncomputable def b_is_letter : DS := (dRet (dAndV (dIsi "str" (dVar 0)) (dAndV (dBin (fEq false) (dCall fLen (dCons (dVar 0) dNil)) (dC (.int 1))) (dBin (fIn false) (dVar 0) (dC c_LETTERS)))))
noncomputable def F_is_letter : DF := dFun 1 1 b_is_letter
noncomputable def L__law_chest_v1_0 : DS := (dSeq (dSet 4 (dIfE (dTest (dBin fGE (dVar 3) (dC (.int 0)))) (dBin fMul (dC (.int 2)) (dCall fInt1 (dCons (dVar 3) dNil))) (dBin (fInt (fun _ _ => True) (· - ·)) (dC (.int 1)) (dBin fMul (dC (.int 2)) (dCall fInt1 (dCons (dVar 3) dNil))))))
  (dSeq (dSetM 1 (dBin (fInt (fun _ j => 0 < j) (· % ·)) (dCall fInt1 (dCons (dBin fAdd (dBin fAdd (dBin fMul (dVar 1) (dC (.int 40014))) (dBin (fInt (fun _ j => 0 < j) (· % ·)) (dVar 4) (dC (.int 2147483423)))) (dC (.int 71))) dNil)) (dC (.int 2147483423))))
  (dIf (dTest (dBin fGE (dVar 4) (dBin (fInt CPow fun i j => i ^ j.toNat) (dC (.int 10)) (dC (.int 18)))))
  (dExpr (dMeth "list" fAppend (dVar 2) (dCons (dBin (fInt (fun _ j => 0 < j) (· % ·)) (dVar 4) (dBin (fInt CPowW fun i j => i ^ j.toNat) (dBin (fInt CPow fun i j => i ^ j.toNat) (dC (.int 10)) (dC (.int 60))) (dC (.int 9)))) dNil)))
  dNext)))
noncomputable def b__law_chest_v1 : DS := (dSeq (dSetM 1 (dC (.int 11113)))
  (dSeq (dSetM 2 (dLst dNil))
  (dSeq (dFor (dIt (dSl (dVar 0) dNoPart (dPart (dC (.int 60))))) (gN 3) L__law_chest_v1_0)
  (dRet (dLst (dCons (dVar 2) (dCons (dVar 1) dNil)))))))
noncomputable def F__law_chest_v1 : DF := dFun 1 5 b__law_chest_v1
noncomputable def b__law_pull_v1 : DS := (dSeq (dIf (dTest (dBin fLT (dVar 1) (dC (.int 2))))
  (dRet (dC (.int 0)))
  dNext)
  (dSeq (dIf (dTest (dBin fGT (dCall fLen (dCons (dBin fIx (dVar 0) (dC (.int 0))) dNil)) (dC (.int 0))))
  (dSeq (dSet 2 (dCall fInt1 (dCons (dMeth0 "list" fPop (dBin fIx (dVar 0) (dC (.int 0)))) dNil)))
  (dSeq (dIf (dTest (dBin fGE (dVar 2) (dVar 1)))
  (dExpr (dMeth "list" fAppend (dBin fIx (dVar 0) (dC (.int 0))) (dCons (dBin (fInt CDivW (· / ·)) (dVar 2) (dVar 1)) dNil)))
  dNext)
  (dRet (dBin (fInt (fun _ j => 0 < j) (· % ·)) (dVar 2) (dVar 1)))))
  dNext)
  (dSeq (dAsg (dBin (fInt (fun _ j => 0 < j) (· % ·)) (dCall fInt1 (dCons (dBin fAdd (dBin fMul (dBin fIx (dVar 0) (dC (.int 1))) (dC (.int 48271))) (dC (.int 8209))) dNil)) (dC (.int 2147483423))) (gSubD (dVar 0) (dC (.int 1))))
  (dRet (dBin (fInt (fun _ j => 0 < j) (· % ·)) (dCall fInt1 (dCons (dBin (fInt CDivW (· / ·)) (dBin fIx (dVar 0) (dC (.int 1))) (dC (.int 101))) dNil)) (dVar 1))))))
noncomputable def F__law_pull_v1 : DF := dFun 2 3 b__law_pull_v1
noncomputable def b__law_from_v1 : DS := (dRet (dBin fIx (dVar 1) (dOwn 2 F__law_pull_v1 (dCons (dVar 0) (dCons (dCall fLen (dCons (dVar 1) dNil)) dNil)))))
noncomputable def F__law_from_v1 : DF := dFun 2 2 b__law_from_v1
noncomputable def L__law_board_v6_0 : DS := (dSeq (dSet 11 (dBin fIx (dVar 3) (dBin fAdd (dC (.int 1)) (dOwn 2 F__law_pull_v1 (dCons (dVar 0) (dCons (dC (.int 7)) dNil))))))
  (dSeq (dIf (dAnd (dTest (dBin (fEq false) (dVar 4) (dC (.int 1)))) (dTest (dBin fGT (dOwn 2 F__law_pull_v1 (dCons (dVar 0) (dCons (dC (.int 4)) dNil))) (dC (.int 0)))))
  (dSet 11 (dVar 5))
  dNext)
  (dSeq (dIf (dTest (dBin (fEq false) (dVar 4) (dC (.int 2))))
  (dSet 11 (dOwn 2 F__law_from_v1 (dCons (dVar 0) (dCons (dTup (dCons (dC (.str "d")) (dCons (dC (.str "u")) (dCons (dC (.str "du")) dNil)))) dNil))))
  dNext)
  (dSeq (dIf (dTest (dBin (fEq false) (dVar 4) (dC (.int 3))))
  (dSet 11 (dC (.str "dsu")))
  dNext)
  (dExpr (dMeth "list" fAppend (dVar 9) (dCons (dIfE (dTest (dBin fLT (dOwn 2 F__law_pull_v1 (dCons (dVar 0) (dCons (dC (.int 9)) dNil))) (dVar 6))) (dC (.str "")) (dVar 11)) dNil)))))))
noncomputable def L__law_board_v6_1 : DS := (dSeq (dSetM 9 (dLst dNil))
  (dSeq (dFor (dRng1 (dCons (dVar 2) dNil)) (gN 10) L__law_board_v6_0)
  (dExpr (dMeth "list" fAppend (dVar 7) (dCons (dVar 9) dNil)))))
noncomputable def C__law_board_v6_2 : DE := (dLc (dIt (dVar 7)) (gN 8) dYes (dCall fTuple (dCons (dVar 8) dNil)) [8])
noncomputable def b__law_board_v6 : DS := (dSeq (dSet 3 (dTup (dCons (dC (.str "")) (dCons (dC (.str "d")) (dCons (dC (.str "ds")) (dCons (dC (.str "dsu")) (dCons (dC (.str "du")) (dCons (dC (.str "s")) (dCons (dC (.str "su")) (dCons (dC (.str "u")) dNil))))))))))
  (dSeq (dSet 4 (dOwn 2 F__law_pull_v1 (dCons (dVar 0) (dCons (dC (.int 6)) dNil))))
  (dSeq (dSet 5 (dOwn 2 F__law_from_v1 (dCons (dVar 0) (dCons (dVar 3) dNil))))
  (dSeq (dSet 6 (dOwn 2 F__law_from_v1 (dCons (dVar 0) (dCons (dTup (dCons (dC (.int 0)) (dCons (dC (.int 0)) (dCons (dC (.int 1)) (dCons (dC (.int 4)) dNil))))) dNil))))
  (dSeq (dSetM 7 (dLst dNil))
  (dSeq (dFor (dRng1 (dCons (dVar 1) dNil)) (gN 8) L__law_board_v6_1)
  (dSeq (dSetM 8 (dBin fIx (dVar 7) (dOwn 2 F__law_pull_v1 (dCons (dVar 0) (dCons (dVar 1) dNil)))))
  (dSeq (dSet 10 (dOwn 2 F__law_pull_v1 (dCons (dVar 0) (dCons (dVar 2) dNil))))
  (dSeq (dIf (dTest (dBin (fEq false) (dBin fIx (dVar 8) (dVar 10)) (dC (.str ""))))
  (dAsg (dBin fIx (dVar 3) (dBin fAdd (dC (.int 1)) (dOwn 2 F__law_pull_v1 (dCons (dVar 0) (dCons (dC (.int 7)) dNil))))) (gSubD (dVar 8) (dVar 10)))
  dNext)
  (dRet (dCall fTuple (dCons C__law_board_v6_2 dNil))))))))))))
noncomputable def F__law_board_v6 : DF := dFun 3 12 b__law_board_v6
noncomputable def L__law_fault_0 : DS := (dIf (dOr (dNot (dTru (dIsi "str" (dBin fIx (dVar 1) (dVar 3))))) (dTest (dBin (fEq true) (dCall fLen (dCons (dBin fIx (dVar 1) (dVar 3)) dNil)) (dCall fLen (dCons (dBin fIx (dVar 0) (dVar 3)) dNil)))))
  (dRet (dTup (dCons (dVar 3) (dCons (dUn fNeg (dC (.int 1))) (dCons (dC (.str "row")) dNil)))))
  dNext)
noncomputable def L__law_fault_1 : DS := (dSeq (dSet 5 (dBin fIx (dBin fIx (dVar 1) (dVar 3)) (dVar 4)))
  (dSeq (dIf (dAnd (dTest (dBin (fEq false) (dBin fIx (dBin fIx (dVar 0) (dVar 3)) (dVar 4)) (dC (.str "")))) (dTest (dBin (fEq true) (dVar 5) (dC (.str "#")))))
  (dRet (dTup (dCons (dVar 3) (dCons (dVar 4) (dCons (dC (.str "wall")) dNil)))))
  dNext)
  (dSeq (dIf (dAnd (dTest (dBin (fEq true) (dBin fIx (dBin fIx (dVar 0) (dVar 3)) (dVar 4)) (dC (.str "")))) (dTest (dBin (fIn true) (dVar 5) (dBin fIx (dBin fIx (dVar 0) (dVar 3)) (dVar 4)))))
  (dRet (dTup (dCons (dVar 3) (dCons (dVar 4) (dCons (dC (.str "letter")) dNil)))))
  dNext)
  (dSet 2 (dBin fAdd (dVar 2) (dCall fInt1 (dCons (dBin (fEq true) (dVar 5) (dC (.str "#"))) dNil)))))))
noncomputable def L__law_fault_2 : DS := (dFor (dRng1 (dCons (dCall fLen (dCons (dBin fIx (dVar 0) (dVar 3)) dNil)) dNil)) (gN 4) L__law_fault_1)
noncomputable def b__law_fault : DS := (dSeq (dIf (dOr (dNot (dTru (dIsi "tuple" (dVar 1)))) (dTest (dBin (fEq true) (dCall fLen (dCons (dVar 1) dNil)) (dCall fLen (dCons (dVar 0) dNil)))))
  (dRet (dTup (dCons (dUn fNeg (dC (.int 1))) (dCons (dUn fNeg (dC (.int 1))) (dCons (dC (.str "shape")) dNil)))))
  dNext)
  (dSeq (dSet 2 (dC (.int 0)))
  (dSeq (dFor (dRng1 (dCons (dCall fLen (dCons (dVar 0) dNil)) dNil)) (gN 3) L__law_fault_0)
  (dSeq (dFor (dRng1 (dCons (dCall fLen (dCons (dVar 0) dNil)) dNil)) (gN 3) L__law_fault_2)
  (dRet (dTup (dCons (dVar 2) dNil)))))))
noncomputable def F__law_fault : DF := dFun 2 6 b__law_fault
noncomputable def b_fits_kind : DS := (dRet (dIfE (dTest (dBin (fEq false) (dVar 0) (dC (.str "")))) (dBin (fEq false) (dVar 1) (dC (.str "#"))) (dBin (fIn false) (dVar 1) (dVar 0))))
noncomputable def F_fits_kind : DF := dFun 2 2 b_fits_kind
noncomputable def b_look_at_sign : DS := (dIf (dNot (dTru (dOwn 2 F_fits_kind (dCons (dBin fIx (dBin fIx (dVar 0) (dVar 1)) (dVar 2)) (dCons (dVar 3) dNil)))))
  (dRaise "BadSetting" 4 [("row", 1), ("column", 2), ("word", 3)] (dCons (dVar 1) (dCons (dVar 2) (dCons (dIfE (dTest (dBin (fEq false) (dBin fIx (dBin fIx (dVar 0) (dVar 1)) (dVar 2)) (dC (.str "")))) (dC (.str "wall")) (dC (.str "letter"))) dNil))))
  dNext)
noncomputable def F_look_at_sign : DF := dFun 4 4 b_look_at_sign
noncomputable def L_check_setting_0 : DS := (dIf (dOr (dNot (dTru (dIsi "str" (dBin fIx (dVar 1) (dVar 2))))) (dTest (dBin (fEq true) (dCall fLen (dCons (dBin fIx (dVar 1) (dVar 2)) dNil)) (dCall fLen (dCons (dBin fIx (dVar 0) (dVar 2)) dNil)))))
  (dRaise "BadSetting" 4 [("row", 1), ("column", 2), ("word", 3)] (dCons (dVar 2) (dCons (dUn fNeg (dC (.int 1))) (dCons (dC (.str "row")) dNil))))
  dNext)
noncomputable def L_check_setting_1 : DS := (dSeq (dExpr (dOwn 4 F_look_at_sign (dCons (dVar 0) (dCons (dVar 2) (dCons (dVar 4) (dCons (dBin fIx (dBin fIx (dVar 1) (dVar 2)) (dVar 4)) dNil))))))
  (dIf (dTest (dBin (fEq true) (dBin fIx (dBin fIx (dVar 0) (dVar 2)) (dVar 4)) (dC (.str ""))))
  (dAug 3 fAddI (dC (.int 1)))
  dNext))
noncomputable def L_check_setting_2 : DS := (dFor (dRng1 (dCons (dCall fLen (dCons (dBin fIx (dVar 0) (dVar 2)) dNil)) dNil)) (gN 4) L_check_setting_1)
noncomputable def b_check_setting : DS := (dSeq (dIf (dOr (dNot (dTru (dIsi "tuple" (dVar 1)))) (dTest (dBin (fEq true) (dCall fLen (dCons (dVar 1) dNil)) (dCall fLen (dCons (dVar 0) dNil)))))
  (dRaise "BadSetting" 4 [("row", 1), ("column", 2), ("word", 3)] (dCons (dUn fNeg (dC (.int 1))) (dCons (dUn fNeg (dC (.int 1))) (dCons (dC (.str "shape")) dNil))))
  dNext)
  (dSeq (dFor (dRng1 (dCons (dCall fLen (dCons (dVar 0) dNil)) dNil)) (gN 2) L_check_setting_0)
  (dSeq (dSet 3 (dC (.int 0)))
  (dSeq (dFor (dRng1 (dCons (dCall fLen (dCons (dVar 0) dNil)) dNil)) (gN 2) L_check_setting_2)
  (dRet (dVar 3))))))
noncomputable def F_check_setting : DF := dFun 2 5 b_check_setting
noncomputable def b__law_told_v5 : DS := (dTry (dRet (dTup (dCons (dOwn 2 F_check_setting (dCons (dVar 0) (dCons (dVar 1) dNil))) dNil))) [(some 2, [("BadSetting", true), ("BadStep", false)], fun _ fs => (dRet (dTup (dCons (dPin 2 fs "row") (dCons (dPin 2 fs "column") (dCons (dPin 2 fs "word") dNil)))))), (none, [("BadSetting", true), ("BadStep", true)], fun _ _ => (dRet (dTup (dCons (dC (.str "other")) (dCons (dC (.str "other")) dNil)))))])
noncomputable def F__law_told_v5 : DF := dFun 2 3 b__law_told_v5
noncomputable def b_is_setting : DS := (dSeq (dTry (dExpr (dOwn 2 F_check_setting (dCons (dVar 0) (dCons (dVar 1) dNil)))) [(none, [("BadSetting", true), ("BadStep", false)], fun _ _ => (dRet (dC (.bl false))))])
  (dRet (dC (.bl true))))
noncomputable def F_is_setting : DF := dFun 2 2 b_is_setting
noncomputable def b__law_judged : DS := (dSeq (dSet 2 (dOwn 2 F__law_fault (dCons (dVar 0) (dCons (dVar 1) dNil))))
  (dRet (dAndV (dOwn 2 F__law_same_v1 (dCons (dOwn 2 F__law_told_v5 (dCons (dVar 0) (dCons (dVar 1) dNil))) (dCons (dVar 2) dNil))) (dOwn 2 F__law_same_v1 (dCons (dOwn 2 F_is_setting (dCons (dVar 0) (dCons (dVar 1) dNil))) (dCons (dBin (fEq false) (dCall fLen (dCons (dVar 2) dNil)) (dC (.int 1))) dNil))))))
noncomputable def F__law_judged : DF := dFun 2 3 b__law_judged
noncomputable def L__law_setting_v1_0 : DS := (dIf (dTest (dBin (fEq false) (dVar 6) (dC (.str ""))))
  (dSet 5 (dBin fAdd (dVar 5) (dC (.str "#"))))
  (dIf (dTest (dBin fLT (dVar 2) (dC (.int 3))))
  (dSet 5 (dBin fAdd (dVar 5) (dBin fIx (dVar 6) (dOwn 2 F__law_pull_v1 (dCons (dVar 0) (dCons (dCall fLen (dCons (dVar 6) dNil)) dNil))))))
  (dSet 5 (dBin fAdd (dVar 5) (dIfE (dTest (dBin (fEq false) (dVar 2) (dC (.int 3)))) (dBin fIx (dVar 6) (dC (.int 0))) (dBin fIx (dVar 6) (dUn fNeg (dC (.int 1)))))))))
noncomputable def L__law_setting_v1_1 : DS := (dSeq (dSet 5 (dC (.str "")))
  (dSeq (dFor (dIt (dVar 4)) (gN 6) L__law_setting_v1_0)
  (dExpr (dMeth "list" fAppend (dVar 3) (dCons (dVar 5) dNil)))))
noncomputable def b__law_setting_v1 : DS := (dSeq (dSet 2 (dOwn 2 F__law_pull_v1 (dCons (dVar 0) (dCons (dC (.int 5)) dNil))))
  (dSeq (dSetM 3 (dLst dNil))
  (dSeq (dFor (dIt (dVar 1)) (gN 4) L__law_setting_v1_1)
  (dRet (dCall fTuple (dCons (dVar 3) dNil))))))
noncomputable def F__law_setting_v1 : DF := dFun 2 7 b__law_setting_v1
noncomputable def b_letter_at : DS := (dSeq (dIf (dOr (dNot (dTru (dOwn 1 F_is_number (dCons (dVar 1) dNil)))) (dOr (dTest (dBin fGE (dVar 1) (dCall fLen (dCons (dVar 0) dNil)))) (dOr (dNot (dTru (dOwn 1 F_is_number (dCons (dVar 2) dNil)))) (dTest (dBin fGE (dVar 2) (dCall fLen (dCons (dBin fIx (dVar 0) (dC (.int 0))) dNil)))))))
  (dRaise "BadStep" 2 [("word", 1)] (dCons (dC (.str "cell")) dNil))
  dNext)
  (dRet (dBin fIx (dBin fIx (dVar 0) (dVar 1)) (dVar 2))))
noncomputable def F_letter_at : DF := dFun 3 3 b_letter_at
noncomputable def b_look_for_open : DS := (dSeq (dExpr (dOwn 3 F_look_for_cell (dCons (dVar 0) (dCons (dVar 1) (dCons (dVar 2) dNil)))))
  (dIf (dTest (dBin (fEq false) (dBin fIx (dBin fIx (dVar 0) (dVar 1)) (dVar 2)) (dC (.str ""))))
  (dRaise "BadStep" 2 [("word", 1)] (dCons (dC (.str "wall")) dNil))
  dNext))
noncomputable def F_look_for_open : DF := dFun 3 3 b_look_for_open
noncomputable def b_put_sign : DS := (dSeq (dSet 4 (dBin fAdd (dBin fAdd (dSl (dBin fIx (dVar 0) (dVar 1)) dNoPart (dPart (dVar 2))) (dVar 3)) (dSl (dBin fIx (dVar 0) (dVar 1)) (dPart (dBin fAdd (dVar 2) (dC (.int 1)))) dNoPart)))
  (dRet (dBin fAdd (dBin fAdd (dSl (dVar 0) dNoPart (dPart (dVar 1))) (dTup (dCons (dVar 4) dNil))) (dSl (dVar 0) (dPart (dBin fAdd (dVar 1) (dC (.int 1)))) dNoPart))))
noncomputable def F_put_sign : DF := dFun 4 5 b_put_sign
noncomputable def b_with_sign : DS := (dSeq (dIf (dNot (dTru (dOwn 1 F_is_letter (dCons (dVar 4) dNil))))
  (dRaise "BadStep" 2 [("word", 1)] (dCons (dC (.str "letter")) dNil))
  dNext)
  (dSeq (dExpr (dOwn 3 F_look_for_open (dCons (dVar 0) (dCons (dVar 2) (dCons (dVar 3) dNil)))))
  (dSeq (dIf (dTest (dBin (fIn true) (dVar 4) (dBin fIx (dBin fIx (dVar 0) (dVar 2)) (dVar 3))))
  (dRaise "BadStep" 2 [("word", 1)] (dCons (dC (.str "letter")) dNil))
  dNext)
  (dRet (dOwn 4 F_put_sign (dCons (dVar 1) (dCons (dVar 2) (dCons (dVar 3) (dCons (dVar 4) dNil)))))))))
noncomputable def F_with_sign : DF := dFun 5 5 b_with_sign
noncomputable def b__law_word_v1 : DS := (dSeq (dTry (dIf (dTest (dBin (fEq false) (dVar 0) (dC (.int 0))))
  (dExpr (dOwn 3 F_letter_at (dCons (dVar 2) (dCons (dVar 3) (dCons (dVar 4) dNil)))))
  (dExpr (dOwn 5 F_with_sign (dCons (dVar 1) (dCons (dVar 2) (dCons (dVar 3) (dCons (dVar 4) (dCons (dVar 5) dNil)))))))) [(some 6, [("BadSetting", false), ("BadStep", true)], fun _ fs => (dRet (dIfE (dTru (dIsi "str" (dPin 6 fs "word"))) (dPin 6 fs "word") (dC (.str ""))))), (none, [("BadSetting", true), ("BadStep", true)], fun _ _ => (dRet (dC (.str ""))))])
  (dRet (dC (.str ""))))
noncomputable def F__law_word_v1 : DF := dFun 6 7 b__law_word_v1
noncomputable def L__law_refused_0 : DS := (dSeq (dSet 9 (dOwn 2 F__law_from_v1 (dCons (dVar 0) (dCons (dVar 6) dNil))))
  (dSeq (dIf (dOr (dTest (dBin (fEq true) (dOwn 6 F__law_word_v1 (dCons (dC (.int 0)) (dCons (dVar 1) (dCons (dVar 2) (dCons (dBin fIx (dVar 9) (dC (.int 0))) (dCons (dBin fIx (dVar 9) (dC (.int 1))) (dCons (dC (.str "d")) dNil))))))) (dC (.str "cell")))) (dTest (dBin (fEq true) (dOwn 6 F__law_word_v1 (dCons (dC (.int 1)) (dCons (dVar 1) (dCons (dVar 2) (dCons (dBin fIx (dVar 9) (dC (.int 0))) (dCons (dBin fIx (dVar 9) (dC (.int 1))) (dCons (dOwn 2 F__law_from_v1 (dCons (dVar 0) (dCons (dC (.str "dsu")) dNil))) dNil))))))) (dC (.str "cell")))))
  (dRet (dC (.bl false)))
  dNext)
  (dSeq (dIf (dTest (dBin (fEq true) (dOwn 6 F__law_word_v1 (dCons (dC (.int 1)) (dCons (dVar 1) (dCons (dVar 2) (dCons (dBin fIx (dVar 9) (dC (.int 0))) (dCons (dBin fIx (dVar 9) (dC (.int 1))) (dCons (dOwn 2 F__law_from_v1 (dCons (dVar 0) (dCons (dVar 7) dNil))) dNil))))))) (dC (.str "letter"))))
  (dRet (dC (.bl false)))
  dNext)
  (dIf (dTest (dBin (fEq true) (dOwn 6 F__law_word_v1 (dCons (dC (.int 1)) (dCons (dVar 1) (dCons (dVar 2) (dCons (dBin fIx (dVar 5) (dC (.int 0))) (dCons (dBin fIx (dVar 5) (dC (.int 1))) (dCons (dOwn 2 F__law_from_v1 (dCons (dVar 0) (dCons (dVar 7) dNil))) dNil))))))) (dC (.str "letter"))))
  (dRet (dC (.bl false)))
  dNext))))
noncomputable def L__law_refused_1 : DS := (dSeq (dSet 13 (dIfE (dTest (dBin (fEq false) (dBin fIx (dBin fIx (dVar 1) (dVar 10)) (dVar 11)) (dC (.str "")))) (dC (.str "wall")) (dIfE (dTest (dBin (fIn false) (dVar 12) (dBin fIx (dBin fIx (dVar 1) (dVar 10)) (dVar 11)))) (dC (.str "")) (dC (.str "letter")))))
  (dIf (dAnd (dTest (dBin (fEq false) (dBin fMul (dBin (fInt CDivW (· / ·)) (dBin fAdd (dBin fAdd (dVar 10) (dVar 11)) (dVar 3)) (dC (.int 2))) (dC (.int 2))) (dBin fAdd (dBin fAdd (dVar 10) (dVar 11)) (dVar 3)))) (dTest (dBin (fEq true) (dOwn 6 F__law_word_v1 (dCons (dC (.int 1)) (dCons (dVar 1) (dCons (dVar 2) (dCons (dVar 10) (dCons (dVar 11) (dCons (dVar 12) dNil))))))) (dVar 13))))
  (dRet (dC (.bl false)))
  dNext))
noncomputable def L__law_refused_2 : DS := (dFor (dIt (dC (.str "dsu"))) (gN 12) L__law_refused_1)
noncomputable def L__law_refused_3 : DS := (dFor (dRng1 (dCons (dVar 4) dNil)) (gN 11) L__law_refused_2)
noncomputable def b__law_refused : DS := (dSeq (dSet 2 (dOwn 2 F__law_setting_v1 (dCons (dVar 0) (dCons (dVar 1) dNil))))
  (dSeq (dSet 3 (dCall fLen (dCons (dVar 1) dNil)))
  (dSeq (dSet 4 (dCall fLen (dCons (dBin fIx (dVar 1) (dC (.int 0))) dNil)))
  (dSeq (dSet 5 (dTup (dCons (dOwn 2 F__law_pull_v1 (dCons (dVar 0) (dCons (dVar 3) dNil))) (dCons (dOwn 2 F__law_pull_v1 (dCons (dVar 0) (dCons (dVar 4) dNil))) dNil))))
  (dSeq (dSet 6 (dTup (dCons (dTup (dCons (dVar 3) (dCons (dBin fIx (dVar 5) (dC (.int 1))) dNil))) (dCons (dTup (dCons (dBin fIx (dVar 5) (dC (.int 0))) (dCons (dVar 4) dNil))) (dCons (dTup (dCons (dUn fNeg (dC (.int 1))) (dCons (dBin fIx (dVar 5) (dC (.int 1))) dNil))) (dCons (dTup (dCons (dBin fIx (dVar 5) (dC (.int 0))) (dCons (dUn fNeg (dC (.int 1))) dNil))) (dCons (dTup (dCons (dC (.str "0")) (dCons (dBin fIx (dVar 5) (dC (.int 1))) dNil))) (dCons (dTup (dCons (dBin fIx (dVar 5) (dC (.int 0))) (dCons (dC .non) dNil))) (dCons (dTup (dCons (dC (.bl true)) (dCons (dBin fIx (dVar 5) (dC (.int 1))) dNil))) (dCons (dTup (dCons (dBin fIx (dVar 5) (dC (.int 0))) (dCons (dC (.bl false)) dNil))) (dCons (dTup (dCons (dTup (dCons (dC (.int 0)) (dCons (dC (.int 0)) dNil))) (dCons (dC (.int 0)) dNil))) (dCons (dTup (dCons (dBin (fInt CPow fun i j => i ^ j.toNat) (dC (.int 10)) (dC (.int 40))) (dCons (dC (.int 0)) dNil))) (dCons (dTup (dCons (dVar 5) (dCons (dVar 5) dNil))) dNil)))))))))))))
  (dSeq (dSet 7 (dTup (dCons (dC (.str "x")) (dCons (dC (.str "")) (dCons (dC (.str "ds")) (dCons (dC (.str "D")) (dCons (dC .non) (dCons (dC (.int 0)) (dCons (dC (.bl true)) (dCons (dTup (dCons (dC (.str "d")) dNil)) (dCons (dLst (dCons (dC (.str "s")) dNil)) (dCons (dC (.str "#")) (dCons (dC (.str "dsu")) (dCons (dBin (fInt CPow fun i j => i ^ j.toNat) (dC (.int 10)) (dC (.int 59))) dNil))))))))))))))
  (dSeq (dFor (dRng1 (dCons (dC (.int 3)) dNil)) (gN 8) L__law_refused_0)
  (dSeq (dFor (dRng1 (dCons (dVar 3) dNil)) (gN 10) L__law_refused_3)
  (dRet (dC (.bl true)))))))))))
noncomputable def F__law_refused : DF := dFun 2 14 b__law_refused
noncomputable def b__law_bent : DS := (dSeq (dSet 2 (dOwn 2 F__law_pull_v1 (dCons (dVar 0) (dCons (dCall fLen (dCons (dVar 1) dNil)) dNil))))
  (dSeq (dIf (dTest (dBin (fEq false) (dOwn 2 F__law_pull_v1 (dCons (dVar 0) (dCons (dC (.int 3)) dNil))) (dC (.int 0))))
  (dSet 2 (dBin (fInt (fun _ _ => True) (· - ·)) (dCall fLen (dCons (dVar 1) dNil)) (dC (.int 1))))
  dNext)
  (dSeq (dSet 3 (dBin fIx (dVar 1) (dVar 2)))
  (dSeq (dSet 4 (dOwn 2 F__law_pull_v1 (dCons (dVar 0) (dCons (dCall fLen (dCons (dVar 3) dNil)) dNil))))
  (dSeq (dSet 5 (dOwn 2 F__law_from_v1 (dCons (dVar 0) (dCons (dTup (dCons (dC (.str "d")) (dCons (dC (.str "s")) (dCons (dC (.str "u")) (dCons (dC (.str "#")) (dCons (dC (.str "x")) (dCons (dC (.str " ")) (dCons (dC (.str "D")) (dCons (dC (.str ".")) dNil))))))))) dNil))))
  (dSeq (dSet 6 (dTup (dCons (dBin fAdd (dBin fAdd (dSl (dVar 3) dNoPart (dPart (dVar 4))) (dVar 5)) (dSl (dVar 3) (dPart (dBin fAdd (dVar 4) (dC (.int 1)))) dNoPart)) (dCons (dBin fAdd (dVar 3) (dVar 5)) (dCons (dBin fAdd (dSl (dVar 3) dNoPart (dPart (dVar 4))) (dSl (dVar 3) (dPart (dBin fAdd (dVar 4) (dC (.int 1)))) dNoPart)) (dCons (dC (.str "")) (dCons (dC .non) (dCons (dC (.bl true)) (dCons (dC (.int 0)) (dCons (dTup (dCons (dVar 3) dNil)) (dCons (dCall fList (dCons (dVar 3) dNil)) (dCons (dCall fTuple (dCons (dVar 3) dNil)) (dCons (dBin (fInt CPow fun i j => i ^ j.toNat) (dC (.int 10)) (dC (.int 59))) dNil)))))))))))))
  (dSeq (dSet 7 (dOwn 2 F__law_pull_v1 (dCons (dVar 0) (dCons (dC (.int 24)) dNil))))
  (dSeq (dIf (dTest (dBin fLT (dVar 7) (dC (.int 8))))
  (dRet (dBin fAdd (dBin fAdd (dSl (dVar 1) dNoPart (dPart (dVar 2))) (dTup (dCons (dBin fIx (dVar 6) (dC (.int 0))) dNil))) (dSl (dVar 1) (dPart (dBin fAdd (dVar 2) (dC (.int 1)))) dNoPart)))
  dNext)
  (dSeq (dIf (dTest (dBin fLT (dVar 7) (dC (.int 18))))
  (dRet (dBin fAdd (dBin fAdd (dSl (dVar 1) dNoPart (dPart (dVar 2))) (dTup (dCons (dBin fIx (dVar 6) (dBin (fInt (fun _ _ => True) (· - ·)) (dVar 7) (dC (.int 7)))) dNil))) (dSl (dVar 1) (dPart (dBin fAdd (dVar 2) (dC (.int 1)))) dNoPart)))
  dNext)
  (dRet (dBin fIx (dTup (dCons (dCall fList (dCons (dVar 1) dNil)) (dCons (dSl (dVar 1) (dPart (dC (.int 1))) dNoPart) (dCons (dBin fAdd (dVar 1) (dSl (dVar 1) dNoPart (dPart (dC (.int 1))))) (dCons (dTup (dCons (dVar 1) dNil)) (dCons (dUn fRev (dVar 1)) (dCons (dMeth "str" fJoin (dC (.str "")) (dCons (dVar 1) dNil)) dNil))))))) (dBin (fInt (fun _ _ => True) (· - ·)) (dVar 7) (dC (.int 18))))))))))))))
noncomputable def F__law_bent : DF := dFun 2 8 b__law_bent
noncomputable def b__law_row : DS := (dSeq (dSet 2 (dOwn 2 F__law_pull_v1 (dCons (dVar 0) (dCons (dCall fLen (dCons (dVar 1) dNil)) dNil))))
  (dRet (dBin fIx (dTup (dCons (dBin fAdd (dBin fAdd (dSl (dVar 1) dNoPart (dPart (dVar 2))) (dOwn 2 F__law_from_v1 (dCons (dVar 0) (dCons (dTup (dCons (dC (.str "d")) (dCons (dC (.str "s")) (dCons (dC (.str "u")) (dCons (dC (.str "#")) dNil))))) dNil)))) (dSl (dVar 1) (dPart (dBin fAdd (dVar 2) (dC (.int 1)))) dNoPart)) (dCons (dBin fAdd (dVar 1) (dC (.str "d"))) dNil))) (dBin (fInt CDivW (· / ·)) (dOwn 2 F__law_pull_v1 (dCons (dVar 0) (dCons (dC (.int 4)) dNil))) (dC (.int 3))))))
noncomputable def F__law_row : DF := dFun 2 3 b__law_row
noncomputable def L__law_some_0 : DS := (dIf (dNot (dTru (dOwn 2 F__law_judged (dCons (dVar 1) (dCons (dVar 4) dNil)))))
  (dRet (dC (.bl false)))
  dNext)
noncomputable def L__law_some_1 : DS := (dSeq (dSet 6 (dOwn 2 F__law_bent (dCons (dVar 0) (dCons (dVar 3) dNil))))
  (dSeq (dIf (dNot (dTru (dOwn 2 F__law_judged (dCons (dVar 1) (dCons (dVar 6) dNil)))))
  (dRet (dC (.bl false)))
  dNext)
  (dSeq (dSet 7 (dOwn 2 F__law_setting_v1 (dCons (dVar 0) (dCons (dVar 1) dNil))))
  (dSeq (dSet 8 (dOwn 2 F__law_pull_v1 (dCons (dVar 0) (dCons (dCall fLen (dCons (dVar 3) dNil)) dNil))))
  (dIf (dAnd (dTru (dIsi "tuple" (dVar 6))) (dAnd (dTest (dBin (fEq false) (dCall fLen (dCons (dVar 6) dNil)) (dCall fLen (dCons (dVar 3) dNil)))) (dNot (dTru (dOwn 2 F__law_judged (dCons (dVar 1) (dCons (dBin fAdd (dBin fAdd (dSl (dVar 6) dNoPart (dPart (dVar 8))) (dTup (dCons (dOwn 2 F__law_row (dCons (dVar 0) (dCons (dBin fIx (dVar 7) (dVar 8)) dNil))) dNil))) (dSl (dVar 6) (dPart (dBin fAdd (dVar 8) (dC (.int 1)))) dNoPart)) dNil)))))))
  (dRet (dC (.bl false)))
  dNext)))))
noncomputable def b__law_some : DS := (dSeq (dSet 3 (dOwn 2 F__law_setting_v1 (dCons (dVar 0) (dCons (dVar 1) dNil))))
  (dSeq (dIf (dOr (dNot (dTru (dOwn 2 F__law_judged (dCons (dVar 1) (dCons (dVar 3) dNil))))) (dNot (dTru (dOwn 2 F__law_same_v1 (dCons (dOwn 2 F_is_setting (dCons (dVar 1) (dCons (dVar 3) dNil))) (dCons (dC (.bl true)) dNil))))))
  (dRet (dC (.bl false)))
  dNext)
  (dSeq (dFor (dIt (dTup (dCons (dCall fList (dCons (dVar 3) dNil)) (dCons (dC .non) (dCons (dTup dNil) (dCons (dC (.str "dsu")) (dCons (dC (.int 0)) (dCons (dC (.bl true)) (dCons (dTup (dCons (dTup dNil) dNil)) (dCons (dVar 1) dNil)))))))))) (gN 4) L__law_some_0)
  (dSeq (dFor (dRng1 (dCons (dVar 2) dNil)) (gN 5) L__law_some_1)
  (dRet (dC (.bl true)))))))
noncomputable def F__law_some : DF := dFun 3 9 b__law_some
noncomputable def L_changed_cells_0 : DS := (dIf (dTest (dBin (fEq true) (dBin fIx (dBin fIx (dVar 0) (dVar 3)) (dVar 4)) (dBin fIx (dBin fIx (dVar 1) (dVar 3)) (dVar 4))))
  (dExpr (dMeth "list" fAppend (dVar 2) (dCons (dTup (dCons (dVar 3) (dCons (dVar 4) dNil))) dNil)))
  dNext)
noncomputable def L_changed_cells_1 : DS := (dFor (dRng1 (dCons (dCall fLen (dCons (dBin fIx (dVar 0) (dVar 3)) dNil)) dNil)) (gN 4) L_changed_cells_0)
noncomputable def b_changed_cells : DS := (dSeq (dSetM 2 (dLst dNil))
  (dSeq (dFor (dRng1 (dCons (dCall fLen (dCons (dVar 0) dNil)) dNil)) (gN 3) L_changed_cells_1)
  (dRet (dCall fTuple (dCons (dVar 2) dNil)))))
noncomputable def F_changed_cells : DF := dFun 2 5 b_changed_cells
noncomputable def C_first_setting_0 : DE := (dLc (dIt (dVar 1)) (gN 2) dYes (dIfE (dTest (dBin (fEq false) (dVar 2) (dC (.str "")))) (dC (.str "#")) (dBin fIx (dVar 2) (dC (.int 0)))) [2])
noncomputable def C_first_setting_1 : DE := (dLc (dIt (dVar 0)) (gN 1) dYes (dMeth "str" fJoin (dC (.str "")) (dCons C_first_setting_0 dNil)) [1])
noncomputable def b_first_setting : DS := (dRet (dCall fTuple (dCons C_first_setting_1 dNil)))
noncomputable def F_first_setting : DF := dFun 1 3 b_first_setting
noncomputable def C_last_setting_0 : DE := (dLc (dIt (dVar 1)) (gN 2) dYes (dIfE (dTest (dBin (fEq false) (dVar 2) (dC (.str "")))) (dC (.str "#")) (dBin fIx (dVar 2) (dUn fNeg (dC (.int 1))))) [2])
noncomputable def C_last_setting_1 : DE := (dLc (dIt (dVar 0)) (gN 1) dYes (dMeth "str" fJoin (dC (.str "")) (dCons C_last_setting_0 dNil)) [1])
noncomputable def b_last_setting : DS := (dRet (dCall fTuple (dCons C_last_setting_1 dNil)))
noncomputable def F_last_setting : DF := dFun 1 3 b_last_setting
noncomputable def C__law_edges_0 : DE := (dLc (dIt (dVar 7)) (gN 12) dYes (dIfE (dTest (dBin (fEq true) (dVar 12) (dC (.str "")))) (dSl (dVar 12) dNoPart (dPart (dC (.int 1)))) (dC (.str "#"))) [12])
noncomputable def C__law_edges_1 : DE := (dLc (dIt (dVar 1)) (gN 7) dYes (dMeth "str" fJoin (dC (.str "")) (dCons C__law_edges_0 dNil)) [7])
noncomputable def C__law_edges_2 : DE := (dLc (dIt (dVar 7)) (gN 12) dYes (dIfE (dTest (dBin (fEq true) (dVar 12) (dC (.str "")))) (dSl (dVar 12) (dPart (dUn fNeg (dC (.int 1)))) dNoPart) (dC (.str "#"))) [12])
noncomputable def C__law_edges_3 : DE := (dLc (dIt (dVar 1)) (gN 7) dYes (dMeth "str" fJoin (dC (.str "")) (dCons C__law_edges_2 dNil)) [7])
noncomputable def C__law_edges_4 : DE := (dLc (dRng1 (dCons (dCall fLen (dCons (dBin fIx (dVar 1) (dC (.int 0))) dNil)) dNil)) (gN 8) (dTest (dBin (fEq true) (dBin fIx (dBin fIx (dVar 4) (dVar 7)) (dVar 8)) (dBin fIx (dBin fIx (dVar 5) (dVar 7)) (dVar 8)))) (dTup (dCons (dVar 7) (dCons (dVar 8) dNil))) [8])
noncomputable def L__law_edges_5 : DS := (dExpr (dMeth "list" fExtend (dVar 6) (dCons C__law_edges_4 dNil)))
noncomputable def C__law_edges_6 : DE := (dLc (dRng1 (dCons (dCall fLen (dCons (dBin fIx (dVar 1) (dC (.int 0))) dNil)) dNil)) (gN 8) (dTest (dBin (fEq true) (dBin fIx (dBin fIx (dVar 1) (dVar 7)) (dVar 8)) (dC (.str "")))) (dTup (dCons (dVar 7) (dCons (dVar 8) dNil))) [8])
noncomputable def L__law_edges_7 : DS := (dExpr (dMeth "list" fExtend (dVar 9) (dCons C__law_edges_6 dNil)))
noncomputable def b__law_edges : DS := (dSeq (dSet 2 (dCall fTuple (dCons C__law_edges_1 dNil)))
  (dSeq (dSet 3 (dCall fTuple (dCons C__law_edges_3 dNil)))
  (dSeq (dIf (dNot (dTru (dOwn 2 F__law_same_v1 (dCons (dTup (dCons (dOwn 1 F_first_setting (dCons (dVar 1) dNil)) (dCons (dOwn 1 F_last_setting (dCons (dVar 1) dNil)) dNil))) (dCons (dTup (dCons (dVar 2) (dCons (dVar 3) dNil))) dNil)))))
  (dRet (dC (.bl false)))
  dNext)
  (dSeq (dSet 4 (dOwn 2 F__law_setting_v1 (dCons (dVar 0) (dCons (dVar 1) dNil))))
  (dSeq (dSet 5 (dOwn 2 F__law_setting_v1 (dCons (dVar 0) (dCons (dVar 1) dNil))))
  (dSeq (dSetM 6 (dLst dNil))
  (dSeq (dFor (dRng1 (dCons (dCall fLen (dCons (dVar 1) dNil)) dNil)) (gN 7) L__law_edges_5)
  (dSeq (dIf (dOr (dNot (dTru (dOwn 2 F__law_same_v1 (dCons (dOwn 2 F_changed_cells (dCons (dVar 4) (dCons (dVar 5) dNil))) (dCons (dCall fTuple (dCons (dVar 6) dNil)) dNil))))) (dNot (dTru (dOwn 2 F__law_same_v1 (dCons (dOwn 2 F_changed_cells (dCons (dVar 5) (dCons (dVar 5) dNil))) (dCons (dTup dNil) dNil))))))
  (dRet (dC (.bl false)))
  dNext)
  (dSeq (dSet 7 (dOwn 2 F__law_pull_v1 (dCons (dVar 0) (dCons (dCall fLen (dCons (dVar 1) dNil)) dNil))))
  (dSeq (dSet 8 (dOwn 2 F__law_pull_v1 (dCons (dVar 0) (dCons (dCall fLen (dCons (dBin fIx (dVar 1) (dC (.int 0))) dNil)) dNil))))
  (dSeq (dIf (dNot (dTru (dOwn 2 F__law_same_v1 (dCons (dOwn 3 F_letter_at (dCons (dVar 4) (dCons (dVar 7) (dCons (dVar 8) dNil)))) (dCons (dBin fIx (dBin fIx (dVar 4) (dVar 7)) (dVar 8)) dNil)))))
  (dRet (dC (.bl false)))
  dNext)
  (dSeq (dSetM 9 (dLst dNil))
  (dSeq (dFor (dRng1 (dCons (dCall fLen (dCons (dVar 1) dNil)) dNil)) (gN 7) L__law_edges_7)
  (dSeq (dAsg (dOwn 2 F__law_from_v1 (dCons (dVar 0) (dCons (dVar 9) dNil))) (gT 2 (gsCons (gN 7) (gsCons (gN 8) gsNil))))
  (dSeq (dSet 10 (dOwn 2 F__law_from_v1 (dCons (dVar 0) (dCons (dBin fIx (dBin fIx (dVar 1) (dVar 7)) (dVar 8)) dNil))))
  (dSeq (dSet 11 (dBin fAdd (dBin fAdd (dSl (dVar 4) dNoPart (dPart (dVar 7))) (dTup (dCons (dBin fAdd (dBin fAdd (dSl (dBin fIx (dVar 4) (dVar 7)) dNoPart (dPart (dVar 8))) (dVar 10)) (dSl (dBin fIx (dVar 4) (dVar 7)) (dPart (dBin fAdd (dVar 8) (dC (.int 1)))) dNoPart)) dNil))) (dSl (dVar 4) (dPart (dBin fAdd (dVar 7) (dC (.int 1)))) dNoPart)))
  (dRet (dAndV (dOwn 2 F__law_same_v1 (dCons (dOwn 5 F_with_sign (dCons (dVar 1) (dCons (dVar 4) (dCons (dVar 7) (dCons (dVar 8) (dCons (dVar 10) dNil)))))) (dCons (dVar 11) dNil))) (dOwn 2 F__law_same_v1 (dCons (dOwn 2 F_changed_cells (dCons (dVar 4) (dCons (dVar 11) dNil))) (dCons (dIfE (dTest (dBin (fEq true) (dVar 11) (dVar 4))) (dTup (dCons (dTup (dCons (dVar 7) (dCons (dVar 8) dNil))) dNil)) (dTup dNil)) dNil)))))))))))))))))))))
noncomputable def F__law_edges : DF := dFun 2 13 b__law_edges
noncomputable def L_law_v7_0 : DS := (dSeq (dSet 3 (dOwn 3 F__law_board_v6 (dCons (dVar 1) (dCons (dBin fAdd (dC (.int 1)) (dOwn 2 F__law_pull_v1 (dCons (dVar 1) (dCons (dC (.int 4)) dNil)))) (dCons (dBin fAdd (dC (.int 1)) (dOwn 2 F__law_pull_v1 (dCons (dVar 1) (dCons (dC (.int 4)) dNil)))) dNil)))))
  (dIf (dOr (dNot (dTru (dOwn 3 F__law_some (dCons (dVar 1) (dCons (dVar 3) (dCons (dC (.int 5)) dNil)))))) (dOr (dNot (dTru (dOwn 2 F__law_edges (dCons (dVar 1) (dCons (dVar 3) dNil))))) (dNot (dTru (dOwn 2 F__law_refused (dCons (dVar 1) (dCons (dVar 3) dNil)))))))
  (dRet (dC (.bl false)))
  dNext))
noncomputable def L_law_v7_1 : DS := (dIf (dNot (dTru (dOwn 2 F__law_same_v1 (dCons (dOwn 2 F__law_told_v5 (dCons (dVar 4) (dCons (dVar 6) dNil))) (dCons (dVar 7) dNil)))))
  (dRet (dC (.bl false)))
  dNext)
noncomputable def b_law_v7 : DS := (dSeq (dSetM 1 (dOwn 1 F__law_chest_v1 (dCons (dVar 0) dNil)))
  (dSeq (dFor (dRng1 (dCons (dC (.int 3)) dNil)) (gN 2) L_law_v7_0)
  (dSeq (dSet 4 (dTup (dCons (dTup (dCons (dC (.str "")) (dCons (dC (.str "d")) (dCons (dC (.str "su")) dNil)))) (dCons (dTup (dCons (dC (.str "dsu")) (dCons (dC (.str "")) (dCons (dC (.str "u")) dNil)))) dNil))))
  (dSeq (dIf (dOr (dNot (dTru (dOwn 2 F__law_judged (dCons (dVar 4) (dCons (dTup (dCons (dC (.str "#ds")) (dCons (dC (.str "s#u")) dNil))) dNil))))) (dNot (dTru (dOwn 2 F__law_refused (dCons (dVar 1) (dCons (dVar 4) dNil))))))
  (dRet (dC (.bl false)))
  dNext)
  (dSeq (dSet 5 (dLst (dCons (dTup (dCons (dTup (dCons (dC (.str "ddd")) (dCons (dC (.str "s#")) dNil))) (dCons (dTup (dCons (dC (.int 1)) (dCons (dUn fNeg (dC (.int 1))) (dCons (dC (.str "row")) dNil)))) dNil))) (dCons (dTup (dCons (dTup (dCons (dC (.str "ddd")) (dCons (dC (.str "sdu")) dNil))) (dCons (dTup (dCons (dC (.int 0)) (dCons (dC (.int 0)) (dCons (dC (.str "wall")) dNil)))) dNil))) (dCons (dTup (dCons (dTup (dCons (dC (.str "#dd")) (dCons (dC (.str "sdu")) dNil))) (dCons (dTup (dCons (dC (.int 0)) (dCons (dC (.int 2)) (dCons (dC (.str "letter")) dNil)))) dNil))) (dCons (dTup (dCons (dTup (dCons (dC (.str "#ds")) (dCons (dC (.str "sdd")) dNil))) (dCons (dTup (dCons (dC (.int 1)) (dCons (dC (.int 1)) (dCons (dC (.str "wall")) dNil)))) dNil))) dNil))))))
  (dSeq (dFor (dIt (dVar 5)) (gT 2 (gsCons (gN 6) (gsCons (gN 7) gsNil))) L_law_v7_1)
  (dSeq (dIf (dTest (dBin (fEq false) (dOwn 2 F__law_pull_v1 (dCons (dVar 1) (dCons (dC (.int 13)) dNil))) (dC (.int 5))))
  (dSeq (dSet 3 (dOwn 3 F__law_board_v6 (dCons (dVar 1) (dCons (dC (.int 8)) (dCons (dC (.int 8)) dNil)))))
  (dRet (dAndV (dOwn 3 F__law_some (dCons (dVar 1) (dCons (dVar 3) (dCons (dC (.int 6)) dNil)))) (dOwn 2 F__law_edges (dCons (dVar 1) (dCons (dVar 3) dNil))))))
  dNext)
  (dRet (dC (.bl true))))))))))
noncomputable def F_law_v7 : DF := dFun 1 8 b_law_v7
end Pk
/-! boards, cells, sides, in plain words; what the package's first defs tell of them -/
namespace Bd
open PySem PySem.Spec L2 Dn Pk

inductive Pt where
  | e | n | s | w
deriving DecidableEq
namespace Pt
def str : Pt → Str
  | e => "e" | n => "n" | s => "s" | w => "w"
def dn : Pt → Int
  | e => 0 | n => -1 | s => 1 | w => 0
def rt : Pt → Int
  | e => 1 | n => 0 | s => 0 | w => -1
def opp : Pt → Pt
  | e => w | n => s | s => n | w => e
def all : List Pt := [e, n, s, w]
theorem mem_all (p : Pt) : p ∈ all := by cases p <;> simp [all]
theorem str_inj {p q : Pt} : p.str = q.str ↔ p = q := by
  constructor
  · intro h
    revert h
    cases p <;> cases q <;> decide
  · intro h; rw [h]
end Pt
abbrev Brd := List (List Str)
abbrev Cell := Nat × Nat
abbrev Side := Nat × Nat × Pt
def eR (r : List Str) : T := .tup (r.map .str)
def eB (b : Brd) : T := .tup (b.map eR)
def eC (c : Cell) : T := .tup [.int c.1, .int c.2]
def eS (s : Side) : T := .tup [.int s.1, .int s.2.1, .str s.2.2.str]
@[simp] theorem lt_eC (n : Nat) (c : Cell) : (eC c).lt n = true := by simp [eC]
@[simp] theorem lt_eS (n : Nat) (c : Side) : (eS c).lt n = true := by simp [eS]
@[simp] theorem lt_eB (n : Nat) (b : Brd) : (eB b).lt n = true := by
  simp only [eB, lt_tup]
  refine ltsM fun r _ => ?_
  simp only [eR, lt_tup]
  exact ltsM fun _ _ => rfl
@[simp] theorem fz_eC (c : Cell) : fz (eC c) = eC c := id rfl
@[simp] theorem fz_eS (c : Side) : fz (eS c) = eS c := id rfl
@[simp] theorem fz_eR (c : List Str) : fz (eR c) = eR c := id rfl
@[simp] theorem fz_eB (c : Brd) : fz (eB c) = eB c := id rfl
def row (b : Brd) (r : Nat) : List Str := b[r]?.getD []
def wd (b : Brd) : Nat := (row b 0).length
theorem wd0 (b : Brd) : (row b 0).length = wd b := rfl
def at_ (b : Brd) (r c : Nat) : Str := (row b r)[c]?.getD ""
/-- a board -/
structure WB (b : Brd) : Prop where
  rows : 0 < b.length
  few : b.length ≤ 100
  rect : ∀ r ∈ b, r.length = wd b
  cols : 0 < wd b
  fewc : wd b ≤ 100
section
variable {b : Brd} {S : Sto} (W : WB b)
include W
theorem row0 : atI (b.map eR) 0 = some (eR (row b 0)) := by
  have := W.rows
  unfold row
  rw [atI_0, List.getElem?_map, List.getElem?_eq_getElem this]
  simp
theorem ix_row {r : Nat} (h : r < b.length) : fIx (eB b) (.int r) S = .ok (eR (row b r)) S := by
  unfold eB row
  rw [fIx_tup, atI_n, List.getElem?_map, List.getElem?_eq_getElem h]
  simp
theorem len_row {r : Nat} (h : r < b.length) : (row b r).length = wd b := by
  unfold row
  rw [List.getElem?_eq_getElem h]
  exact W.rect _ (List.getElem_mem h)
theorem ix_cell {r c : Nat} (h : r < b.length) (hc : c < wd b) : fIx (eR (row b r)) (.int c) S = .ok (.str (at_ b r c)) S := by
  have hl := len_row W h
  unfold eR
  rw [fIx_tup, atI_n, List.getElem?_map]
  unfold at_
  rw [List.getElem?_eq_getElem (by rw [hl]; exact hc)]
  simp
omit W in
@[simp] theorem len_eB : fLen [eB b] S = .ok (.int b.length) S := by simp [eB]
omit W in
@[simp] theorem len_eR {r : List Str} : fLen [eR r] S = .ok (.int r.length) S := by simp [eR]
theorem ix_row0 : fIx (eB b) (.int 0) S = .ok (eR (row b 0)) S := ix_row W (r := 0) W.rows
/-- a cell that light can lie in -/
def open' (b : Brd) (r c : Int) : Bool := (decide (0 ≤ r) && decide (r < b.length)) && (decide (0 ≤ c) && decide (c < wd b)) && decide (at_ b r.toNat c.toNat ≠ "")
theorem has_cell_ok {r c : Int} : F_has_cell [eB b, .int r, .int c] S = .ok (.bl ((decide (0 ≤ r) && decide (r < b.length)) && (decide (0 ≤ c) && decide (c < wd b)))) S := by
  simp only [F_has_cell, dFun_eq (np := 3) (n := 3) (ts := [eB b, T.int r, T.int c]) rfl, b_has_cell]
  by_cases h1 : 0 ≤ r
  · by_cases h2 : r < b.length
    · by_cases h3 : 0 ≤ c
      · simp [h1, h2, h3, ix_row0 W, wd0]
        rw [gcT_same (by simp)]
      · simp [h1, h2, h3, ix_row0 W]
        rw [gcT_same (by simp)]
    · simp [h1, h2]
      rw [gcT_same (by simp)]
  · simp [h1]
    rw [gcT_same (by simp)]
theorem is_open_ok {r c : Int} : F_is_open [eB b, .int r, .int c] S = .ok (.bl (open' b r c)) S := by
  simp only [F_is_open, dFun_eq (np := 3) (n := 3) (ts := [eB b, T.int r, T.int c]) rfl, b_is_open]
  unfold open'
  cases hb : (decide (0 ≤ r) && decide (r < b.length)) && (decide (0 ≤ c) && decide (c < wd b)) with
  | false =>
    simp [has_cell_ok W, hb]
    rw [gcT_same (by simp)]
  | true =>
    have hb' := hb
    simp only [Bool.and_eq_true, decide_eq_true_eq] at hb'
    obtain ⟨⟨h1, h2⟩, h3, h4⟩ := hb'
    obtain ⟨r', rfl⟩ := Int.eq_ofNat_of_zero_le h1
    obtain ⟨c', rfl⟩ := Int.eq_ofNat_of_zero_le h3
    simp only [dRet_eq, dAndV_eq, dOwn_eq, dCons_eq, dVar_eq, dNil_eq, RE.consA_ok, RA.cons_ok, RA.bind_ok, fz_eB, fz_int, has_cell_ok W, hb]
    have h2' : r' < b.length := by omega
    have h4' : c' < wd b := by omega
    simp [has_cell_ok W, hb, ix_row W (r := r') (by omega), ix_cell W (r := r') (c := c') (by omega) (by omega), h2', h4']
    rw [gcT_same (by simp)]
omit W in
theorem steps (p : Pt) : fIx c_STEPS (.str p.str) S = .ok (.ktup [.int p.dn, .int p.rt]) S := by cases p <;> rfl
omit W in
theorem opps (p : Pt) : fIx c_OPPOSITE (.str p.str) S = .ok (.str p.opp.str) S := by cases p <;> rfl
omit W in
theorem next_cell_ok {r c : Int} {p : Pt} : F_next_cell [.int r, .int c, .str p.str] S = .ok (.tup [.int (r + p.dn), .int (c + p.rt)]) S := by
  simp [F_next_cell, dFun_eq, b_next_cell, steps]
  rw [gcT_same (by simp)]
/-- beyond a side -/
def beyond (b : Brd) (s : Side) : Option Side := if open' b (s.1 + s.2.2.dn) (s.2.1 + s.2.2.rt) then some ((s.1 + s.2.2.dn).toNat, (s.2.1 + s.2.2.rt).toNat, s.2.2.opp) else none
def eO : Option Side → T
  | none => .non
  | some s => eS s
@[simp] theorem lt_eO (n : Nat) (o : Option Side) : (eO o).lt n = true := by cases o <;> simp [eO]
omit W in
theorem open_nonneg {r c : Int} (h : open' b r c = true) : 0 ≤ r ∧ r < b.length ∧ 0 ≤ c ∧ c < wd b ∧ at_ b r.toNat c.toNat ≠ "" := by
  unfold open' at h
  simp only [Bool.and_eq_true, decide_eq_true_eq] at h
  exact ⟨h.1.1.1, h.1.1.2, h.1.2.1, h.1.2.2, h.2⟩
theorem other_side_ok {s : Side} : F_other_side [eB b, eS s] S = .ok (eO (beyond b s)) S := by
  obtain ⟨r, c, p⟩ := s
  unfold beyond
  simp only
  cases h : open' b (r + p.dn) (c + p.rt) with
  | false =>
    simp [F_other_side, dFun_eq, b_other_side, eS, next_cell_ok, is_open_ok W, h, eO]
    rw [gcT_same (by simp)]
  | true =>
    obtain ⟨h1, _, h2, _⟩ := open_nonneg h
    obtain ⟨r', hr⟩ := Int.eq_ofNat_of_zero_le h1
    obtain ⟨c', hc⟩ := Int.eq_ofNat_of_zero_le h2
    rw [hr, hc] at h
    simp [F_other_side, dFun_eq, b_other_side, eS, next_cell_ok, is_open_ok W, h, eO, opps, hr, hc]
    rw [gcT_same (by simp)]

theorem size_of_ok : F_size_of [eB b] S = .ok (.tup [.int b.length, .int (wd b)]) S := by
  simp [F_size_of, dFun_eq, b_size_of, ix_row0 W, wd0]
  rw [gcT_same (by simp)]
def allC (b : Brd) : List Cell := (List.range b.length).flatMap fun r => (List.range (wd b)).map fun c => (r, c)
omit W in
theorem allC_lts (n : Nat) (b : Brd) : T.lts n ((allC b).map eC) = true := ltsM fun c _ => by simp
theorem all_cells_ok : F_all_cells [eB b] S = .ok (.nlst ((allC b).map eC)) S := by
  have hf := W.few
  have hw := W.fewc
  let sh := fun (x y : Option T) => [some (eB b), some (T.int b.length), some (T.int (wd b)), some (T.ref S.length), x, y]
  simp only [F_all_cells, dFun_eq (np := 1) (n := 6) (ts := [eB b]) rfl, b_all_cells]
  simp [size_of_ok W]
  have hin : ∀ r ∈ List.range b.length, ∀ acc sl, (∃ x y, sl = sh x y) → acc.length ≤ 100000 → ∃ sl1 S1 sl2, gN 4 (T.int (r : Nat)) sl (S ++ [.lst acc]) = some (sl1, S1) ∧
      (L_all_cells_1 sl1 S1 = .nx sl2 (S ++ [.lst (acc ++ (List.range (wd b)).map fun c => eC (r, c))]) ∨ L_all_cells_1 sl1 S1 = .ct sl2 (S ++ [.lst (acc ++ (List.range (wd b)).map fun c => eC (r, c))])) ∧ (∃ x y, sl2 = sh x y) := by
    rintro r _ acc sl ⟨x, y, rfl⟩ hl
    obtain ⟨sl', q1, x', rfl⟩ := for_app (S := S) (src := none) (all := (List.range (wd b)).map fun k => T.int (k : Nat)) (g := gN 5) (b := L_all_cells_0) (fun k : Nat => T.int k) (fun c => [eC (r, c)]) (fun sl => ∃ y, sl = sh (some (T.int (r : Nat))) y) 1 1000000 (fun _ => trivial)
      (List.range (wd b)) acc (sh (some (T.int (r : Nat))) y) (fun _ _ => by simp) (fun c _ acc sl ⟨y, e⟩ hl => by
        subst e
        refine ⟨_, _, sh (some (T.int (r : Nat))) (some (T.int (c : Nat))), gN_eq _, .inl ?_, _, rfl⟩
        have : acc.length < 16777216 := by omega
        simp [L_all_cells_0, sh, this, eC]) (by simp; omega) ⟨y, rfl⟩
    refine ⟨_, _, sh (some (T.int (r : Nat))) x', gN_eq _, .inl ?_, _, _, rfl⟩
    unfold L_all_cells_1
    rw [dFor_eq _ _ _ _ _ (dRng1_eq (n := wd b) (by simp [sh]; rfl) (by omega))]
    simp only [sh, List.set_cons_succ, List.set_cons_zero] at q1 ⊢
    rw [q1]
    simp [List.map_eq_flatMap]
  rw [dFor_eq _ _ _ _ _ (dRng1_eq (n := b.length) (by simp; rfl) (by omega))]
  obtain ⟨sl', q1, x', y', rfl⟩ := for_app (S := S) (src := none) (all := (List.range b.length).map fun k => T.int (k : Nat)) (g := gN 4) (b := L_all_cells_1) (fun k : Nat => T.int k) (fun r => (List.range (wd b)).map fun c => eC (r, c)) _ (wd b) 100000 (fun _ => trivial)
      (List.range b.length) [] _ (fun _ _ => by simp) hin (by simp; exact Nat.le_trans (Nat.mul_le_mul hf hw) (by omega)) ⟨none, none, rfl⟩
  simp only [sh] at q1
  rw [q1]
  have e : [] ++ (List.range b.length).flatMap (fun r => (List.range (wd b)).map fun c => eC (r, c)) = (allC b).map eC := by simp [allC, List.map_flatMap, Function.comp_def]
  rw [e]
  simp
  rw [gcT_top (allC_lts _ _)]
/-- the cells that are no walls, in sequence -/
def cells (b : Brd) : List Cell := (allC b).filter fun c => decide (at_ b c.1 c.2 ≠ "")
omit W in
theorem mem_allC {c : Cell} : c ∈ allC b ↔ c.1 < b.length ∧ c.2 < wd b := by
  obtain ⟨r, c⟩ := c
  simp [allC]
omit W in
theorem mem_cells {c : Cell} : c ∈ cells b ↔ c.1 < b.length ∧ c.2 < wd b ∧ at_ b c.1 c.2 ≠ "" := by
  unfold cells
  rw [List.mem_filter, mem_allC]
  simp [and_assoc]
omit W in
theorem len_allC : (allC b).length = b.length * wd b := by
  simp [allC, List.length_flatMap, List.map_const', List.sum_replicate_nat]
theorem len_allC' : (allC b).length ≤ 10000 := by
  rw [len_allC]
  exact Nat.le_trans (Nat.mul_le_mul W.few W.fewc) (by omega)
theorem len_cells : (cells b).length ≤ 10000 := Nat.le_trans (List.length_filter_le _ _) (len_allC' W)
theorem cells_of_ok : F_cells_of [eB b] S = .ok (.tup ((cells b).map eC)) S := by
  have hl := len_allC' W
  simp only [F_cells_of, dFun_eq (np := 1) (n := 3) (ts := [eB b]) rfl, b_cells_of]
  have hc : C_cells_of_0 [some (eB b), none, none] S = .ok (.nlst ((cells b).map eC)) S := by
    unfold C_cells_of_0
    rw [dLc_eq _ _ _ _ _ _ _ (dIt_eq (t := .nlst ((allC b).map eC)) (src := none) (ts := (allC b).map eC) (by simp [all_cells_ok W]; rfl) rfl)]
    rw [lcL_map still_none eC (fun c => decide (at_ b c.1 c.2 ≠ "")) eC (allC b) [] ?_ (by simp; omega)]
    · simp [cells]
    · intro c hm
      obtain ⟨h1, h2⟩ := mem_allC.mp hm
      refine ⟨[some (eB b), some (.int c.1), some (.int c.2)], by simp [eC, wipeT], ?_, fun _ => ?_⟩
      · simp [ix_row W h1, ix_cell W h1 h2]
      · refine ⟨eC c, ?_, rfl⟩
        simp [eC]
  simp [hc]
  rw [gcT_same (by simp [ltsM])]
/-- all sides -/
def sides (b : Brd) : List Side := (cells b).flatMap fun c => Pt.all.map fun p => (c.1, c.2, p)
omit W in
theorem pts_it : itOf S c_POINTS = some (none, Pt.all.map fun p => T.str p.str) := rfl
omit W in
theorem mem_sides {s : Side} : s ∈ sides b ↔ (s.1, s.2.1) ∈ cells b := by
  obtain ⟨r, c, p⟩ := s
  simp [sides, Pt.mem_all]
theorem len_sides : (sides b).length ≤ 40000 := by
  have := len_cells W
  simp [sides, List.length_flatMap, List.map_const', List.sum_replicate_nat, Pt.all]
  omega
theorem sides_of_ok : F_sides_of [eB b] S = .ok (.tup ((sides b).map eS)) S := by
  have hl := len_cells W
  let sh := fun (x y z : Option T) => [some (eB b), some (T.ref S.length), x, y, z]
  simp only [F_sides_of, dFun_eq (np := 1) (n := 5) (ts := [eB b]) rfl, b_sides_of]
  simp
  have hin : ∀ c ∈ cells b, ∀ acc sl, (∃ x y z, sl = sh x y z) → acc.length ≤ 1000000 → ∃ sl1 S1 sl2, gT 2 (gsCons (gN 2) (gsCons (gN 3) gsNil)) (eC c) sl (S ++ [.lst acc]) = some (sl1, S1) ∧
      (L_sides_of_1 sl1 S1 = .nx sl2 (S ++ [.lst (acc ++ Pt.all.map fun p => eS (c.1, c.2, p))]) ∨ L_sides_of_1 sl1 S1 = .ct sl2 (S ++ [.lst (acc ++ Pt.all.map fun p => eS (c.1, c.2, p))])) ∧ (∃ x y z, sl2 = sh x y z) := by
    rintro c _ acc sl ⟨x, y, z, rfl⟩ hl
    obtain ⟨sl', q1, x', rfl⟩ := for_app (S := S) (src := none) (all := Pt.all.map fun p => T.str p.str) (g := gN 4) (b := L_sides_of_0) (fun p : Pt => T.str p.str) (fun p => [eS (c.1, c.2, p)]) (fun sl => ∃ z, sl = sh (some (.int c.1)) (some (.int c.2)) z) 1 2000000 (fun _ => trivial)
      Pt.all acc (sh (some (.int c.1)) (some (.int c.2)) z) (fun _ _ => by simp) (fun p _ acc sl ⟨z, e⟩ hl => by
        subst e
        refine ⟨_, _, sh (some (.int c.1)) (some (.int c.2)) (some (.str p.str)), gN_eq _, .inl ?_, _, rfl⟩
        have : acc.length < 16777216 := by omega
        simp [L_sides_of_0, sh, this, eS]) (by simp [Pt.all]; omega) ⟨z, rfl⟩
    refine ⟨sh (some (.int c.1)) (some (.int c.2)) z, S ++ [.lst acc], sh (some (.int c.1)) (some (.int c.2)) x', by simp [eC, sh], .inl ?_, _, _, _, rfl⟩
    unfold L_sides_of_1
    rw [dFor_eq _ _ _ _ _ (dIt_eq (t := c_POINTS) (by simp; rfl) (by rw [fz_c_POINTS]; exact pts_it)), q1]
    simp [List.map_eq_flatMap]
  rw [dFor_eq _ _ _ _ _ (dIt_eq (t := .tup ((cells b).map eC)) (src := none) (ts := (cells b).map eC) (by simp [cells_of_ok W]; rfl) rfl)]
  obtain ⟨sl', q1, x', y', z', rfl⟩ := for_app (S := S) (src := none) (all := (cells b).map eC) (g := gT 2 (gsCons (gN 2) (gsCons (gN 3) gsNil))) (b := L_sides_of_1) eC (fun c => Pt.all.map fun p => eS (c.1, c.2, p)) _ 4 1000000 (fun _ => trivial)
      (cells b) [] _ (fun _ _ => by simp [Pt.all]) hin (by simp; omega) ⟨none, none, none, rfl⟩
  simp only [sh] at q1
  rw [q1]
  have e : [] ++ (cells b).flatMap (fun c => Pt.all.map fun p => eS (c.1, c.2, p)) = (sides b).map eS := by simp [sides, List.map_flatMap, Function.comp_def]
  rw [e]
  simp
  rw [gcT_app (by simp [ltsM])]
/-- the ends -/
def ends (b : Brd) : List Side := (sides b).filter fun s => (beyond b s).isNone
omit W in
@[simp] theorem fIs_eO {o : Option Side} : fIs false (eO o) .non S = .ok (.bl o.isNone) S := by cases o <;> simp [eO, eS]
omit W in
@[simp] theorem fIsN_eO {o : Option Side} : fIs true (eO o) .non S = .ok (.bl o.isSome) S := by cases o <;> simp [eO, eS]
omit W in
@[simp] theorem fz_eO {o : Option Side} : fz (eO o) = eO o := by cases o <;> rfl
theorem ends_of_ok : F_ends_of [eB b] S = .ok (.tup ((ends b).map eS)) S := by
  have hl := len_sides W
  simp only [F_ends_of, dFun_eq (np := 1) (n := 2) (ts := [eB b]) rfl, b_ends_of]
  have hc : C_ends_of_0 [some (eB b), none] S = .ok (.nlst ((ends b).map eS)) S := by
    unfold C_ends_of_0
    rw [dLc_eq _ _ _ _ _ _ _ (dIt_eq (t := .tup ((sides b).map eS)) (src := none) (ts := (sides b).map eS) (by simp [sides_of_ok W]; rfl) rfl)]
    rw [lcL_map still_none eS (fun s => (beyond b s).isNone) eS (sides b) [] ?_ (by simp; omega)]
    · simp [ends]
    · intro s hm
      refine ⟨[some (eB b), some (eS s)], by simp [wipeT], ?_, fun _ => ?_⟩
      · simp [other_side_ok W]
      · refine ⟨eS s, ?_, rfl⟩
        simp
  simp [hc]
  rw [gcT_same (by simp [ltsM])]
end
/-! ### equal or not, in or not -/
theorem Pt.ok (p : Pt) : PyData.strOk p.str = true := by cases p <;> decide +kernel
theorem beq_nat (a b : Nat) : ((a : Int) == (b : Int)) = decide (a = b) := by
  by_cases h : a = b
  · subst h; simp
  · rw [decide_eq_false h, beq_eq_false_iff_ne]
    omega
theorem beq_pt (p q : Pt) : (p.str == q.str) = decide (p = q) := by
  by_cases h : p = q
  · subst h; simp
  · rw [decide_eq_false h, beq_eq_false_iff_ne]
    exact fun z => h (Pt.str_inj.mp z)
theorem fit_eC (c : Cell) : fit (eC c).dat = true := by simp [eC, T.dat, T.dats, fit, SeqAt.shaped, PyData.canLay0, PyData.canLayAll0, PyData.depth, PyData.depthAll]
theorem fit_eS (c : Side) : fit (eS c).dat = true := by simp [Pt.ok, eS, T.dat, T.dats, fit, SeqAt.shaped, PyData.canLay0, PyData.canLayAll0, PyData.depth, PyData.depthAll]
theorem eqv_eC {c d : Cell} : PyData.eqv (eC c).dat (eC d).dat = decide (c = d) := by
  obtain ⟨a, b⟩ := c
  obtain ⟨x, y⟩ := d
  simp only [eC, T.dat, T.dats, PyData.eqv, PyData.eqvAll, Bool.and_true, beq_nat]
  simp [Prod.ext_iff]
theorem eqv_eS {c d : Side} : PyData.eqv (eS c).dat (eS d).dat = decide (c = d) := by
  obtain ⟨a, b, p⟩ := c
  obtain ⟨x, y, q⟩ := d
  simp only [eS, T.dat, T.dats, PyData.eqv, PyData.eqvAll, Bool.and_true, beq_nat, beq_pt]
  simp [Prod.ext_iff]
section
variable {S : Sto} {n : Bool}
@[simp] theorem fEq_eC {c d : Cell} : fEq n (eC c) (eC d) S = .ok (.bl (if n then !decide (c = d) else decide (c = d))) S := by
  have h1 := fit_eC c
  have h2 := fit_eC d
  have h3 := eqv_eC (c := c) (d := d)
  unfold eC at h1 h2 h3 ⊢
  rw [fEq_tup, h1, h2, h3]
  rfl
@[simp] theorem fEq_eS {c d : Side} : fEq n (eS c) (eS d) S = .ok (.bl (if n then !decide (c = d) else decide (c = d))) S := by
  have h1 := fit_eS c
  have h2 := fit_eS d
  have h3 := eqv_eS (c := c) (d := d)
  unfold eS at h1 h2 h3 ⊢
  rw [fEq_tup, h1, h2, h3]
  rfl
theorem lay_eS : ∀ l : List Side, PyData.canLayAll0 (T.dats (l.map eS)) = true ∧ PyData.depthAll (T.dats (l.map eS)) ≤ 1
  | [] => ⟨rfl, by simp [T.dats, PyData.depthAll]⟩
  | s :: l => by
    obtain ⟨h1, h2⟩ := lay_eS l
    constructor
    · simp only [List.map_cons, T.dats, PyData.canLayAll0, h1, Bool.and_true]
      have := fit_eS s
      exact lay_of_fit this
    · simp only [List.map_cons, T.dats, PyData.depthAll]
      have : (eS s).dat.depth ≤ 1 := by simp [eS, T.dat, T.dats, PyData.depth, PyData.depthAll]
      omega
theorem fit_lS (l : List Side) : fit (.list (T.dats (l.map eS))) = true := by
  obtain ⟨h1, h2⟩ := lay_eS l
  simp [fit, SeqAt.shaped, PyData.canLay0, PyData.depth, h1]
  omega
theorem any_eS {s : Side} : ∀ l : List Side, ((T.dats (l.map eS)).any fun z => PyData.eqv z (eS s).dat) = decide (s ∈ l)
  | [] => by simp [T.dats]
  | t :: l => by
    rw [List.map_cons, T.dats, List.any_cons, any_eS l, eqv_eS]
    by_cases h : s = t
    · subst h; simp
    · have : t ≠ s := fun q => h q.symm
      simp [h, this]
theorem in_core {s : Side} {l : List Side} {y : T} (hy : seqOf S y = some (l.map eS)) : fIn n (eS s) y S = .ok (.bl (if n then !decide (s ∈ l) else decide (s ∈ l))) S := by
  have h1 : fit (dato S (eS s)) = true := fit_eS s
  have h4 := any_eS (s := s) l
  have h5 : dato S (eS s) = (eS s).dat := rfl
  have h6 : fIn n (eS s) y S = (match seqOf S y with
    | some ts => if fit (dato S (eS s)) && fit (.list (T.dats ts)) then .ok (.bl (if n then !((T.dats ts).any fun z => PyData.eqv z (dato S (eS s))) else (T.dats ts).any fun z => PyData.eqv z (dato S (eS s)))) S else .bad
    | none => match dget S y (eS s) with
      | some o => .ok (.bl (if n then !o.isSome else o.isSome)) S
      | none => .bad) := by cases y <;> rfl
  rw [h6, hy]
  simp only [h1, fit_lS, fit_eS, Bool.and_self, if_true, h5, h4]
@[simp] theorem fIn_tS {s : Side} {l : List Side} : fIn n (eS s) (.tup (l.map eS)) S = .ok (.bl (if n then !decide (s ∈ l) else decide (s ∈ l))) S := in_core rfl
@[simp] theorem fIn_lS {s : Side} {l : List Side} : fIn n (eS s) (.lst (l.map eS)) S = .ok (.bl (if n then !decide (s ∈ l) else decide (s ∈ l))) S := in_core rfl
@[simp] theorem fIn_1S {s t : Side} : fIn n (eS s) (.tup [eS t]) S = .ok (.bl (if n then !decide (s = t) else decide (s = t))) S := by
  have := fIn_tS (n := n) (S := S) (s := s) (l := [t])
  simpa using this
@[simp] theorem fIn_0S {s : Side} : fIn n (eS s) (.tup []) S = .ok (.bl n) S := by
  have := fIn_tS (n := n) (S := S) (s := s) (l := [])
  simpa using this
end
/-! ### cuts -/
theorem cutT_to {α : Type} {xs : List α} {n : Nat} : cutT xs none (some (n : Int)) = xs.take n := by
  unfold cutT HT.sIx
  simp only [Int.toNat_natCast]
  rw [if_neg (by omega), List.drop_zero, Nat.sub_zero]
  by_cases h : n ≤ xs.length
  · rw [Nat.min_eq_left h]
  · rw [Nat.min_eq_right (by omega), List.take_of_length_le (Nat.le_refl _), List.take_of_length_le (by omega)]
theorem cutT_from {α : Type} {xs : List α} {n : Nat} : cutT xs (some (n : Int)) none = xs.drop n := by
  unfold cutT HT.sIx
  simp only [Int.toNat_natCast]
  rw [if_neg (by omega)]
  by_cases h : n ≤ xs.length
  · rw [Nat.min_eq_left h]
    exact List.take_of_length_le (by simp)
  · rw [Nat.min_eq_right (by omega)]
    simp
    omega
@[simp] theorem cut_eS {s : Side} : fSl (eS s) none (some 2) = fun S => .ok (eC (s.1, s.2.1)) S := by
  funext S
  unfold eS
  rw [fSl_tup]
  have : cutT [T.int s.1, T.int s.2.1, T.str s.2.2.str] none (some ((2 : Nat) : Int)) = [T.int s.1, T.int s.2.1] := by rw [cutT_to]; rfl
  rw [show ((2 : Nat) : Int) = 2 from rfl] at this
  rw [this]
  rfl
/-! ### a cell written -/
/-- with a kind at a cell -/
def put (b : Brd) (r c : Nat) (k : Str) : Brd := b.take r ++ [(row b r).take c ++ [k] ++ (row b r).drop (c + 1)] ++ b.drop (r + 1)
/-- all walls at a cell -/
def shut (b : Brd) (c : Cell) : Brd := (List.range b.length).map fun i => (List.range (wd b)).map fun j => if (i, j) = c then "" else at_ b i j
section
variable {b : Brd} {S : Sto} (W : WB b)
include W
theorem put_kind_ok {r c : Nat} {k : Str} (hr : r < b.length) (hc : c < wd b) : F_put_kind [eB b, .int r, .int c, .str k] S = .ok (eB (put b r c k)) S := by
  have h1 := W.few
  have h2 := W.fewc
  have h3 := len_row W hr
  simp only [F_put_kind, dFun_eq (np := 4) (n := 5) (ts := [eB b, T.int r, T.int c, T.str k]) rfl, b_put_kind]
  have e1 : ((r : Int) + 1) = ((r + 1 : Nat) : Int) := by omega
  have e2 : ((c : Int) + 1) = ((c + 1 : Nat) : Int) := by omega
  have x1 : fSl (eR (row b r)) none (some (c : Int)) S = .ok (.tup (((row b r).take c).map T.str)) S := by
    unfold eR
    rw [fSl_tup, cutT_to, List.map_take]
  have x2 : fSl (eR (row b r)) (some ((c : Int) + 1)) none S = .ok (.tup (((row b r).drop (c + 1)).map T.str)) S := by
    rw [e2]
    unfold eR
    rw [fSl_tup, cutT_from, List.map_drop]
  have x3 : fSl (eB b) none (some (r : Int)) S = .ok (.tup ((b.take r).map eR)) S := by
    unfold eB
    rw [fSl_tup, cutT_to, List.map_take]
  have x4 : fSl (eB b) (some ((r : Int) + 1)) none S = .ok (.tup ((b.drop (r + 1)).map eR)) S := by
    rw [e1]
    unfold eB
    rw [fSl_tup, cutT_from, List.map_drop]
  have l1 : min c (row b r).length ≤ 16777215 := by omega
  have l2 : min c (row b r).length + 1 + ((row b r).length - (c + 1)) ≤ 16777216 := by omega
  have l3 : min r b.length ≤ 16777215 := by omega
  have l4 : min r b.length + 1 + (b.length - (r + 1)) ≤ 16777216 := by omega
  simp [ix_row W hr, x1, x2, x3, x4, l1, l2, l3, l4]
  have e : T.tup (List.take r (List.map eR b) ++ T.tup (List.take c (List.map T.str (row b r)) ++ T.str k :: List.drop (c + 1) (List.map T.str (row b r))) :: List.drop (r + 1) (List.map eR b)) = eB (put b r c k) := by
    simp [eB, put, eR]
  rw [e, gcT_same (by simp)]
omit W in
theorem at_row {r c : Nat} (h : c < (row b r).length) : (row b r)[c]? = some (at_ b r c) := by
  unfold at_
  rw [List.getElem?_eq_getElem h]
  rfl
theorem put_shut {r c : Nat} (hr : r < b.length) (hc : c < wd b) : put b r c "" = shut b (r, c) := by
  have h3 := len_row W hr
  apply List.ext_getElem?
  intro i
  unfold put shut
  by_cases hi : i < b.length
  · rw [List.getElem?_map, List.getElem?_range hi]
    simp only [Option.map_some]
    have h4 := len_row W hi
    have hrow : b[i]? = some (row b i) := by unfold row; rw [List.getElem?_eq_getElem hi]; rfl
    by_cases e : i = r
    · subst e
      have l : (b.take i).length = i := by rw [List.length_take]; omega
      rw [List.append_assoc, List.getElem?_append_right (by omega), l, Nat.sub_self]
      simp only [List.singleton_append, List.getElem?_cons_zero]
      congr 1
      apply List.ext_getElem?
      intro j
      have l2 : ((row b i).take c).length = c := by rw [List.length_take]; omega
      by_cases hj : j < wd b
      · rw [List.getElem?_map, List.getElem?_range hj]
        simp only [Option.map_some, Prod.mk.injEq, true_and]
        rcases Nat.lt_trichotomy j c with q | q | q
        · rw [List.append_assoc, List.getElem?_append_left (by omega), List.getElem?_take_of_lt q, at_row (by omega), if_neg (by omega)]
        · subst q
          rw [List.append_assoc, List.getElem?_append_right (by omega), l2, Nat.sub_self, if_pos rfl]
          rfl
        · rw [List.append_assoc, List.getElem?_append_right (by omega), l2, if_neg (by omega), List.singleton_append]
          obtain ⟨m, hm⟩ : ∃ m, j - c = m + 1 := ⟨j - c - 1, by omega⟩
          rw [hm, List.getElem?_cons_succ, List.getElem?_drop, show c + 1 + m = j by omega, at_row (by omega)]
      · rw [List.getElem?_eq_none (by simp; omega), List.getElem?_eq_none (by simp; omega)]
    · have hr2 : (List.range (wd b)).map (fun j => if (i, j) = (r, c) then ("" : Str) else at_ b i j) = row b i := by
        apply List.ext_getElem?
        intro j
        by_cases hj : j < wd b
        · rw [List.getElem?_map, List.getElem?_range hj, at_row (by omega)]
          simp [e]
        · rw [List.getElem?_eq_none (by simp; omega), List.getElem?_eq_none (by omega)]
      rw [hr2]
      have l : (b.take r).length = r := by rw [List.length_take]; omega
      rcases Nat.lt_or_gt_of_ne e with q | q
      · rw [List.append_assoc, List.getElem?_append_left (by omega), List.getElem?_take_of_lt q, hrow]
      · rw [List.append_assoc, List.getElem?_append_right (by omega), l, List.singleton_append]
        obtain ⟨m, hm⟩ : ∃ m, i - r = m + 1 := ⟨i - r - 1, by omega⟩
        rw [hm, List.getElem?_cons_succ, List.getElem?_drop, show r + 1 + m = i by omega, hrow]
  · rw [List.getElem?_eq_none (by simp; omega), List.getElem?_eq_none (by simp; omega)]
omit W in
theorem shut_row {d : Cell} {i : Nat} (hi : i < b.length) : row (shut b d) i = (List.range (wd b)).map fun j => if (i, j) = d then ("" : Str) else at_ b i j := by
  unfold row shut
  rw [List.getElem?_map, List.getElem?_range hi]
  rfl
omit W in
theorem len_shut {d : Cell} : (shut b d).length = b.length := by simp [shut]
theorem wd_shut {d : Cell} : wd (shut b d) = wd b := by
  have : wd (shut b d) = (row (shut b d) 0).length := rfl
  rw [this, shut_row W.rows]
  simp
omit W in
theorem at_shut {d : Cell} {i j : Nat} (hi : i < b.length) (hj : j < wd b) : at_ (shut b d) i j = if (i, j) = d then ("" : Str) else at_ b i j := by
  have : at_ (shut b d) i j = (row (shut b d) i)[j]?.getD "" := rfl
  rw [this, shut_row hi, List.getElem?_map, List.getElem?_range hj]
  rfl
theorem WB_shut {d : Cell} : WB (shut b d) := ⟨by rw [len_shut]; exact W.rows, by rw [len_shut]; exact W.few, fun r hr => by
  rw [wd_shut W]
  unfold shut at hr
  obtain ⟨i, _, rfl⟩ := List.mem_map.mp hr
  simp, by rw [wd_shut W]; exact W.cols, by rw [wd_shut W]; exact W.fewc⟩
end
end Bd

/-! the law's own looks at boards -/
namespace Bd
open PySem PySem.Spec L2 Dn Pk
@[simp] theorem filt_true {α : Type} (xs : List α) : xs.filter (fun _ => true) = xs := List.filter_eq_self.mpr fun _ _ => rfl
section
variable {b : Brd} {S : Sto} (W : WB b)
include W
theorem law_cells_ok : F__law_cells [eB b] S = .ok (.lst ((cells b).map eC)) S := by
  have hf := W.few
  have hw := W.fewc
  let rowC := fun r : Nat => ((List.range (wd b)).filter fun c => decide (at_ b r c ≠ "")).map fun c => eC (r, c)
  let sh := fun (acc : List T) (y z : Option T) => [some (eB b), some (T.lst acc), y, z]
  have hrl : ∀ r, (rowC r).length ≤ 100 := fun r => by
    simp only [rowC, List.length_map]
    exact Nat.le_trans (List.length_filter_le _ _) (by simp; exact hw)
  have hcomp : ∀ r, r < b.length → ∀ acc z, C__law_cells_0 (sh acc (some (.int (r : Nat))) z) S = .ok (.nlst (rowC r)) S := by
    intro r hr acc z
    unfold C__law_cells_0
    rw [dLc_eq _ _ _ _ _ _ _ (dRng1_eq (n := wd b) (by simp [sh, ix_row0 W, wd0]; rfl) (by omega))]
    rw [lcL_map still_none (fun k : Nat => T.int k) (fun c => decide (at_ b r c ≠ "")) (fun c => eC (r, c)) (List.range (wd b)) [] ?_ (by simp; omega)]
    · simp [rowC]
    · intro c hm
      have hc : c < wd b := by simpa using hm
      refine ⟨[some (eB b), some (T.lst acc), some (.int r), some (.int c)], by simp [sh, wipeT], ?_, fun _ => ?_⟩
      · simp [ix_row W hr, ix_cell W hr hc]
      · refine ⟨eC (r, c), ?_, rfl⟩
        simp [eC]
  simp only [F__law_cells, dFun_eq (np := 1) (n := 4) (ts := [eB b]) rfl, b__law_cells]
  simp
  rw [dFor_eq _ _ _ _ _ (dRng1_eq (n := b.length) (by simp; rfl) (by omega))]
  obtain ⟨sl', q1, acc', hacc, y', z', rfl, _⟩ := for_set (β := Unit) (src := none) (all := (List.range b.length).map fun k => T.int (k : Nat)) (g := gN 2) (b := L__law_cells_1) (S := S) (fun k : Nat => T.int k) still_none
    (fun xs sl => ∃ acc, acc ++ xs.flatMap rowC = (List.range b.length).flatMap rowC ∧ ∃ y z, sl = sh acc y z ∧ (∀ x ∈ xs, x < b.length) ∧ acc.length + xs.length * 100 ≤ 10000) (by
      rintro x xs sl ⟨acc, h1, y, z, rfl, h2, h3⟩
      have hx := h2 x List.mem_cons_self
      have hlx := hrl x
      rw [List.length_cons, Nat.succ_mul] at h3
      refine ⟨_, _, sh (acc ++ rowC x) (some (.int (x : Nat))) z, gN_eq _, .inl ?_, acc ++ rowC x, by rw [← h1]; simp, _, _, rfl, fun q hq => h2 q (List.mem_cons_of_mem _ hq), by rw [List.length_append]; omega⟩
      have hc := hcomp x hx acc z
      simp only [sh] at hc
      have hz : acc.length + (rowC x).length ≤ 16777216 := by omega
      simp [L__law_cells_1, sh, hc, hz])
    (List.range b.length) (sh [] none none) ⟨[], by simp, none, none, rfl, by simp, by simp; omega⟩
  simp only [sh] at q1
  rw [q1]
  simp only [List.flatMap_nil, List.append_nil] at hacc
  subst hacc
  have e : (List.range b.length).flatMap rowC = (cells b).map eC := by
    simp only [cells, allC, List.filter_flatMap, List.map_flatMap, List.filter_map, List.map_map, rowC]
    rfl
  rw [e]
  simp
  rw [gcT_same (by simp [ltsM])]
omit W in
theorem law_dn {x0 x1 x2 x3 : Option T} {p : Pt} : dGet2 (dDisp [((dC (.str "n")), (dUn fNeg (dC (.int 1)))), ((dC (.str "s")), (dC (.int 1)))]) (dVar 4) (dC (.int 0)) [x0, x1, x2, x3, some (.str p.str)] S = .ok (.int p.dn) S := by cases p <;> rfl
omit W in
theorem law_rt {x0 x1 x2 x3 : Option T} {p : Pt} : dGet2 (dDisp [((dC (.str "e")), (dC (.int 1))), ((dC (.str "w")), (dUn fNeg (dC (.int 1))))]) (dVar 4) (dC (.int 0)) [x0, x1, x2, x3, some (.str p.str)] S = .ok (.int p.rt) S := by cases p <;> rfl
omit W in
theorem law_opp {x0 x1 x2 x3 : Option T} {p : Pt} : dBin fIx (dDisp [((dC (.str "e")), (dC (.str "w"))), ((dC (.str "w")), (dC (.str "e"))), ((dC (.str "n")), (dC (.str "s"))), ((dC (.str "s")), (dC (.str "n")))]) (dVar 4) [x0, x1, x2, x3, some (.str p.str)] S = .ok (.str p.opp.str) S := by cases p <;> rfl
theorem law_beyond_ok {s : Side} : F__law_beyond [eB b, eS s] S = .ok (eO (beyond b s)) S := by
  obtain ⟨r, c, p⟩ := s
  simp only [F__law_beyond, dFun_eq (np := 2) (n := 5) (ts := [eB b, eS (r, c, p)]) rfl, b__law_beyond]
  have key : ∀ (x y : Int), (if x < 0 then RB.ok true S else if y < 0 then RB.ok true S else if (b.length : Int) ≤ x then RB.ok true S else if (wd b : Int) ≤ y then RB.ok true S else
      (((fIx (eB b) (.int x) S).bind fun q S1 => fIx (fz q) (.int y) S1).bind fun q S1 => fEq false (fz q) (.str "") S1).toB) = .ok (!open' b x y) S := by
    intro x y
    unfold open'
    by_cases h1 : x < 0
    · have : ¬ 0 ≤ x := by omega
      simp [h1, this]
    · by_cases h2 : y < 0
      · have : ¬ 0 ≤ y := by omega
        simp [h1, h2, this]
      · by_cases h3 : (b.length : Int) ≤ x
        · have : ¬ x < (b.length : Int) := by omega
          simp [h1, h2, h3, this]
        · by_cases h4 : (wd b : Int) ≤ y
          · have : ¬ y < (wd b : Int) := by omega
            simp [h1, h2, h3, h4, this]
          · obtain ⟨x', rfl⟩ := Int.eq_ofNat_of_zero_le (show 0 ≤ x by omega)
            obtain ⟨y', rfl⟩ := Int.eq_ofNat_of_zero_le (show 0 ≤ y by omega)
            have h5 : x' < b.length := by omega
            have h6 : y' < wd b := by omega
            have h7 : ¬ b.length ≤ x' := by omega
            have h8 : ¬ wd b ≤ y' := by omega
            have h9 : ¬ ((x' : Int) < 0) := by omega
            have h10 : ¬ ((y' : Int) < 0) := by omega
            simp [ix_row W h5, ix_cell W h5 h6, h5, h6, h7, h8, h9, h10]
  unfold beyond
  simp only
  have e1 : ∀ x : Int, x < 0 ↔ ¬ 0 ≤ x := fun x => by omega
  cases h : open' b (r + p.dn) (c + p.rt) with
  | false =>
    simp [eS, law_dn, law_rt, ix_row0 W, wd0, key, h, eO]
    rw [gcT_same (by simp)]
  | true =>
    obtain ⟨h1, h3, h2, h4, h5⟩ := open_nonneg h
    obtain ⟨r', hr⟩ := Int.eq_ofNat_of_zero_le h1
    obtain ⟨c', hc⟩ := Int.eq_ofNat_of_zero_le h2
    rw [hr] at h3 h5
    rw [hc] at h4 h5
    simp only [Int.toNat_natCast] at h5
    have h6 : r' < b.length := by omega
    have h7 : c' < wd b := by omega
    have h8 : ¬ b.length ≤ r' := by omega
    have h9 : ¬ wd b ≤ c' := by omega
    have h10 : ¬ ((r' : Int) < 0) := by omega
    have h11 : ¬ ((c' : Int) < 0) := by omega
    have lo := law_opp (S := S) (x0 := some (eB b)) (x1 := some (T.tup [T.int r, T.int c, T.str p.str])) (x2 := some (T.int r')) (x3 := some (T.int c')) (p := p)
    simp only [Dn.dBin_eq] at lo
    simp [eS, law_dn, law_rt, ix_row0 W, wd0, hr, hc, eO, ix_row W h6, ix_cell W h6 h7, h8, h9, h10, h11, h5]
    simp at lo
    rw [lo]
    simp
    rw [gcT_same (by simp)]
theorem law_sides_ok : F__law_sides [eB b] S = .ok (.lst ((sides b).map eS)) S := by
  have hl := len_cells W
  let sh := fun (acc : List T) (y z : Option T) => [some (eB b), some (T.lst acc), y, z]
  let cs := fun c : Cell => Pt.all.map fun p => eS (c.1, c.2, p)
  have hcomp : ∀ (c : Cell) acc z, C__law_sides_0 (sh acc (some (eC c)) z) S = .ok (.nlst (cs c)) S := by
    intro c acc z
    unfold C__law_sides_0
    rw [dLc_eq _ _ _ _ _ _ _ (dIt_eq (t := .str "ensw") (src := none) (ts := Pt.all.map fun p => T.str p.str) (by simp; rfl) rfl)]
    rw [lcL_map still_none (fun p : Pt => T.str p.str) (fun _ => true) (fun p => eS (c.1, c.2, p)) Pt.all [] ?_ (by simp [Pt.all])]
    · simp [cs]
    · intro p _
      refine ⟨[some (eB b), some (T.lst acc), some (eC c), some (.str p.str)], by simp [sh, wipeT], rfl, fun _ => ⟨eS (c.1, c.2, p), ?_, rfl⟩⟩
      simp [eC, eS]
  simp only [F__law_sides, dFun_eq (np := 1) (n := 4) (ts := [eB b]) rfl, b__law_sides]
  simp
  rw [dFor_eq _ _ _ _ _ (dIt_eq (t := .lst ((cells b).map eC)) (src := none) (ts := (cells b).map eC) (by simp [law_cells_ok W]; rfl) rfl)]
  obtain ⟨sl', q1, acc', hacc, y', z', rfl, _⟩ := for_set (β := Unit) (src := none) (all := (cells b).map eC) (g := gN 2) (b := L__law_sides_1) (S := S) eC still_none
    (fun xs sl => ∃ acc, acc ++ xs.flatMap cs = (cells b).flatMap cs ∧ ∃ y z, sl = sh acc y z ∧ acc.length + xs.length * 4 ≤ 40000) (by
      rintro x xs sl ⟨acc, h1, y, z, rfl, h3⟩
      rw [List.length_cons, Nat.succ_mul] at h3
      refine ⟨_, _, sh (acc ++ cs x) (some (eC x)) z, gN_eq _, .inl ?_, acc ++ cs x, by rw [← h1]; simp, _, _, rfl, by simp [cs, Pt.all]; omega⟩
      have hc := hcomp x acc z
      simp only [sh] at hc
      have hz : acc.length + (cs x).length ≤ 16777216 := by simp [cs, Pt.all]; omega
      simp [L__law_sides_1, sh, hc, hz])
    (cells b) (sh [] none none) ⟨[], by simp, none, none, rfl, by simp; omega⟩
  simp only [sh] at q1
  rw [q1]
  simp only [List.flatMap_nil, List.append_nil] at hacc
  subst hacc
  have e : (cells b).flatMap cs = (sides b).map eS := by simp [sides, List.map_flatMap, Function.comp_def, cs]
  rw [e]
  simp
  rw [gcT_same (by simp [ltsM])]
theorem law_ends_ok : F__law_ends [eB b] S = .ok (.nlst ((ends b).map eS)) S := by
  have hl := len_sides W
  simp only [F__law_ends, dFun_eq (np := 1) (n := 2) (ts := [eB b]) rfl, b__law_ends]
  have hc : C__law_ends_0 [some (eB b), none] S = .ok (.nlst ((ends b).map eS)) S := by
    unfold C__law_ends_0
    rw [dLc_eq _ _ _ _ _ _ _ (dIt_eq (t := .lst ((sides b).map eS)) (src := none) (ts := (sides b).map eS) (by simp [law_sides_ok W]; rfl) rfl)]
    rw [lcL_map still_none eS (fun s => (beyond b s).isNone) eS (sides b) [] ?_ (by simp; omega)]
    · simp [ends]
    · intro s hm
      refine ⟨[some (eB b), some (eS s)], by simp [wipeT], ?_, fun _ => ?_⟩
      · simp [law_beyond_ok W]
      · refine ⟨eS s, ?_, rfl⟩
        simp
  simp [hc]
  rw [gcT_same (by simp [ltsM])]
theorem law_shut_ok {d : Cell} : F__law_shut [eB b, eC d] S = .ok (eB (shut b d)) S := by
  have hf := W.few
  have hw := W.fewc
  let sh := fun (y z : Option T) => [some (eB b), some (eC d), some (T.ref S.length), y, z]
  have hcomp : ∀ i, i < b.length → ∀ z S', C__law_shut_0 (sh (some (.int (i : Nat))) z) S' = .ok (.nlst ((List.range (wd b)).map fun j => T.str (if (i, j) = d then ("" : Str) else at_ b i j))) S' := by
    intro i hi z S'
    unfold C__law_shut_0
    rw [dLc_eq _ _ _ _ _ _ _ (dRng1_eq (n := wd b) (by simp [sh, ix_row0 W, wd0]; rfl) (by omega))]
    rw [lcL_map still_none (fun k : Nat => T.int k) (fun _ => true) (fun j => T.str (if (i, j) = d then ("" : Str) else at_ b i j)) (List.range (wd b)) [] ?_ (by simp; omega)]
    · simp
    · intro j hm
      have hj : j < wd b := by simpa using hm
      refine ⟨[some (eB b), some (eC d), some (T.ref S.length), some (.int i), some (.int j)], by simp [sh, wipeT], rfl, fun _ => ?_⟩
      have ec : T.tup [T.int (i : Nat), T.int (j : Nat)] = eC (i, j) := rfl
      by_cases h : (i, j) = d
      · refine ⟨.str "", ?_, by simp [h]⟩
        simp [ec, h]
      · refine ⟨.str (at_ b i j), ?_, by simp [h]⟩
        simp [ec, h, ix_row W hi, ix_cell W hi hj]
  simp only [F__law_shut, dFun_eq (np := 2) (n := 5) (ts := [eB b, eC d]) rfl, b__law_shut]
  simp
  rw [dFor_eq _ _ _ _ _ (dRng1_eq (n := b.length) (by simp; rfl) (by omega))]
  let fr := fun i : Nat => [eR ((List.range (wd b)).map fun j => if (i, j) = d then ("" : Str) else at_ b i j)]
  obtain ⟨sl', q1, x', y', rfl⟩ := for_app (S := S) (src := none) (all := (List.range b.length).map fun k => T.int (k : Nat)) (g := gN 3) (b := L__law_shut_1) (fun k : Nat => T.int k) fr (fun sl => ∃ x y, sl = sh x y) 1 1000 (fun _ => trivial)
      (List.range b.length) [] (sh none none) (fun _ _ => by simp [fr]) (fun i hi acc sl ⟨x, y, e⟩ hl => by
        subst e
        refine ⟨_, _, sh (some (T.int (i : Nat))) y, gN_eq _, .inl ?_, _, _, rfl⟩
        have hc := hcomp i (by simpa using hi) y (S ++ [.lst acc])
        simp only [sh] at hc
        have : acc.length < 16777216 := by omega
        simp [L__law_shut_1, sh, hc, this, fr, eR]) (by simp; omega) ⟨none, none, rfl⟩
  simp only [sh] at q1
  rw [q1]
  have e : T.tup ([] ++ (List.range b.length).flatMap fr) = eB (shut b d) := by simp [eB, shut, fr, List.map_eq_flatMap, Function.comp_def, List.flatMap_assoc]
  simp only [List.nil_append] at e
  simp [e]
  rw [gcT_app (by simp)]
end
end Bd

/-! sides in sequence, sorted -/
namespace Bd
open PySem PySem.Spec L2 Dn Pk
def Pt.ix : Pt → Nat
  | .e => 0 | .n => 1 | .s => 2 | .w => 3
theorem Pt.ix_inj {p q : Pt} (h : p.ix = q.ix) : p = q := by cases p <;> cases q <;> first | rfl | (simp [Pt.ix] at h)
theorem Pt.lt_ix (p q : Pt) : decide (p.str.cps.toList < q.str.cps.toList) = decide (p.ix < q.ix) := by cases p <;> cases q <;> decide +kernel
/-- the sequence of sides -/
def slt (s t : Side) : Prop := s.1 < t.1 ∨ s.1 = t.1 ∧ (s.2.1 < t.2.1 ∨ s.2.1 = t.2.1 ∧ s.2.2.ix < t.2.2.ix)
instance (s t : Side) : Decidable (slt s t) := by unfold slt; infer_instance
theorem dlt_eS (s t : Side) : PySem.W.dataLt (eS s).dat (eS t).dat = decide (slt s t) := by
  obtain ⟨a, b, p⟩ := s
  obtain ⟨x, y, q⟩ := t
  simp only [eS, T.dat, T.dats]
  rw [PySem.W.dataLt_tuple, PySem.W.dataLt_cons (by simp [PySem.W.alike]), PySem.W.dataLt_cons (by simp [PySem.W.alike]), PySem.W.dataLt_cons (by simp [PySem.W.alike])]
  simp only [PyData.eqv, beq_nat, beq_pt, PySem.W.dataLt_int, PySem.W.dataLt_str, Pt.lt_ix, slt, decide_eq_true_eq]
  have hn : PyProof.Rows.lexLt PyProof.Rows.itemOrd (PySem.W.keyToksAll []) (PySem.W.keyToksAll []) = false := by
    have := PySem.W.dataLt_self (.list [])
    rwa [PySem.W.dataLt_list] at this
  by_cases h1 : a = x
  · by_cases h2 : b = y
    · by_cases h3 : p = q
      · simp [h1, h2, h3, hn]
      · have h4 : ¬ p.ix = q.ix := fun z => h3 (Pt.ix_inj z)
        simp [h1, h2, h3]
    · have h5 : ((b : Int) < (y : Int)) ↔ b < y := by omega
      simp [h1, h2, h5]
  · have h5 : ((a : Int) < (x : Int)) ↔ a < x := by omega
    simp [h1, h5]
def sle (s t : Side) : Bool := !decide (slt t s)
theorem leT_eS (s t : Side) : leT (eS s) (eS t) = sle s t := by
  unfold leT sle
  rw [PySem.W.dataLe_eq]
  simp [dlt_eS]
def sortS (l : List Side) : List Side := l.mergeSort sle
theorem sort_eS (l : List Side) : (l.map eS).mergeSort leT = (sortS l).map eS := by
  unfold sortS
  rw [← map_mergeSort eS leT l]
  congr 1
  exact congrArg (fun le => l.mergeSort le) (funext fun a => funext fun b => leT_eS a b)
theorem slt_trans {a b c : Side} (h1 : slt a b) (h2 : slt b c) : slt a c := by unfold slt at *; omega
theorem slt_tri (a b : Side) : slt a b ∨ a = b ∨ slt b a := by
  obtain ⟨x, y, p⟩ := a
  obtain ⟨u, v, q⟩ := b
  unfold slt
  simp only
  by_cases h : p.ix = q.ix
  · have := Pt.ix_inj h
    subst this
    by_cases h1 : x = u
    · by_cases h2 : y = v
      · subst h1 h2; exact .inr (.inl rfl)
      · omega
    · omega
  · omega
theorem slt_irr (a : Side) : ¬ slt a a := by unfold slt; omega
theorem sle_iff {a b : Side} : sle a b = true ↔ slt a b ∨ a = b := by
  unfold sle
  simp only [Bool.not_eq_true', decide_eq_false_iff_not]
  constructor
  · intro h
    rcases slt_tri a b with q | q | q
    · exact .inl q
    · exact .inr q
    · exact absurd q h
  · rintro (h | h) q
    · exact slt_irr _ (slt_trans h q)
    · subst h; exact slt_irr _ q
/-- a strictly ascending list with the same members is the sorted one -/
theorem sortS_of {l m : List Side} (hm : m.Pairwise slt) (hl : l.Nodup) (h : ∀ s, s ∈ l ↔ s ∈ m) : sortS l = m := by
  have tot : ∀ a b, (sle a b || sle b a) = true := fun a b => by
    rw [Bool.or_eq_true, sle_iff, sle_iff]
    rcases slt_tri a b with q | q | q
    · exact .inl (.inl q)
    · exact .inl (.inr q)
    · exact .inr (.inl q)
  have tr : ∀ a b c, sle a b = true → sle b c = true → sle a c = true := fun a b c h1 h2 => by
    rw [sle_iff] at *
    rcases h1 with h1 | rfl
    · rcases h2 with h2 | rfl
      · exact .inl (slt_trans h1 h2)
      · exact .inl h1
    · exact h2
  have hs : (sortS l).Pairwise (fun a b => sle a b = true) := List.pairwise_mergeSort tr tot l
  have hm2 : m.Pairwise (fun a b => sle a b = true) := hm.imp fun h => sle_iff.mpr (.inl h)
  have nd : m.Nodup := hm.imp fun h e => by subst e; exact slt_irr _ h
  have hp : (sortS l).Perm m := (List.mergeSort_perm l sle).trans ((List.perm_ext_iff_of_nodup hl nd).mpr h)
  refine List.Perm.eq_of_pairwise (le := fun a b => sle a b = true) (fun a b _ _ h1 h2 => ?_) hs hm2 hp
  rw [sle_iff] at h1 h2
  rcases h1 with h1 | h1
  · rcases h2 with h2 | h2
    · exact absurd (slt_trans h1 h2) (slt_irr _)
    · exact h2.symm
  · exact h1
section
variable {b : Brd} {S : Sto}
theorem cells_asc : (cells b).Pairwise fun c d => c.1 < d.1 ∨ c.1 = d.1 ∧ c.2 < d.2 := by
  unfold cells
  refine List.Pairwise.filter _ ?_
  unfold allC
  rw [List.pairwise_flatMap]
  constructor
  · intro r _
    rw [List.pairwise_map]
    exact List.pairwise_lt_range.imp fun h => .inr ⟨rfl, h⟩
  · refine List.pairwise_lt_range.imp ?_
    intro r1 r2 h x hx y hy
    obtain ⟨c, _, rfl⟩ := List.mem_map.mp hx
    obtain ⟨d, _, rfl⟩ := List.mem_map.mp hy
    exact .inl h
theorem sides_asc : (sides b).Pairwise slt := by
  unfold sides
  rw [List.pairwise_flatMap]
  constructor
  · intro c _
    rw [List.pairwise_map]
    have : Pt.all.Pairwise fun p q => p.ix < q.ix := by decide
    exact this.imp fun h => .inr ⟨rfl, .inr ⟨rfl, h⟩⟩
  · refine cells_asc.imp ?_
    intro c d h x hx y hy
    obtain ⟨p, _, rfl⟩ := List.mem_map.mp hx
    obtain ⟨q, _, rfl⟩ := List.mem_map.mp hy
    unfold slt
    simp only
    omega
theorem ends_asc : (ends b).Pairwise slt := List.Pairwise.filter _ sides_asc
theorem mem_ends {s : Side} : s ∈ ends b ↔ (s.1, s.2.1) ∈ cells b ∧ beyond b s = none := by
  unfold ends
  rw [List.mem_filter, mem_sides]
  simp
theorem alike_eS (s t : Side) : PySem.W.alike (eS s).dat (eS t).dat = true := by simp [eS, T.dat, T.dats, PySem.W.alike, PySem.W.alikeAll]
theorem fSorted_core {l : List Side} {y : T} (hy : lstOf S y = some (l.map eS)) (h : l.length ≤ 1000000) : fSorted [y] S = .ok (.nlst ((sortS l).map eS)) S := by
  have c1 : (l.map eS).length ≤ sizeLine := by simp; omega
  have c2 : ((l.map eS).all fun t => fit t.dat && decide (t.dat.depth ≤ 60)) = true := by
    rw [List.all_eq_true]
    intro t ht
    obtain ⟨s, _, rfl⟩ := List.mem_map.mp ht
    rw [fit_eS]
    simp [eS, T.dat, T.dats, PyData.depth, PyData.depthAll]
  have c3 : alikeT (l.map eS) = true := by
    unfold alikeT
    rw [List.all_eq_true]
    intro t ht
    rw [List.all_eq_true]
    intro u hu
    obtain ⟨s, _, rfl⟩ := List.mem_map.mp ht
    obtain ⟨s', _, rfl⟩ := List.mem_map.mp hu
    exact alike_eS s s'
  have c4 : sortT (l.map eS) = true := by
    unfold sortT
    rw [Bool.or_eq_true]
    refine .inl (List.all_eq_true.mpr fun t ht => ?_)
    obtain ⟨s, _, rfl⟩ := List.mem_map.mp ht
    rfl
  unfold fSorted
  simp only [hy]
  rw [if_pos ⟨c1, c2, c3, c4⟩, sort_eS]
end
end Bd

/-! _law_same of a thing with itself -/
namespace Bd
open PySem PySem.Spec L2 Dn Pk
mutual
def Dt : T → Bool
  | .non => true
  | .bl _ => true
  | .int _ => true
  | .str _ => true
  | .tup ts => Dts ts
  | _ => false
def Dts : List T → Bool
  | [] => true
  | t :: ts => Dt t && Dts ts
end
mutual
def sz : T → Nat
  | .tup ts => 1 + szs ts
  | _ => 1
def szs : List T → Nat
  | [] => 0
  | t :: ts => sz t + szs ts
end
theorem Dts_all : ∀ {ts : List T}, Dts ts = true ↔ ∀ t ∈ ts, Dt t = true
  | [] => by simp [Dts]
  | t :: ts => by rw [Dts, Bool.and_eq_true, Dts_all]; simp
theorem szs_sum : ∀ {ts : List T}, szs ts = (ts.map sz).sum
  | [] => rfl
  | t :: ts => by rw [szs, szs_sum]; simp
theorem sz_pos (t : T) : 0 < sz t := by cases t <;> simp [sz] <;> omega
theorem len_szs : ∀ ts : List T, ts.length ≤ szs ts
  | [] => Nat.le_refl _
  | t :: ts => by
    have := len_szs ts
    have := sz_pos t
    rw [szs, List.length_cons]; omega
def srt : T → Int
  | .non => 0 | .bl _ => 1 | .int _ => 2 | .str _ => 3 | .tup _ => 4 | _ => 5
@[simp] theorem tyT_non {S : Sto} : tyT S .non = some "NoneType" := id rfl
@[simp] theorem tyT_bl {S : Sto} {b : Bool} : tyT S (.bl b) = some "bool" := id rfl
@[simp] theorem tyT_int {S : Sto} {b : Int} : tyT S (.int b) = some "int" := id rfl
@[simp] theorem tyT_str {S : Sto} {b : Str} : tyT S (.str b) = some "str" := id rfl
@[simp] theorem tyT_tup {S : Sto} {b : List T} : tyT S (.tup b) = some "tuple" := id rfl
@[simp] theorem tyT_lst {S : Sto} {b : List T} : tyT S (.lst b) = some "list" := id rfl
@[simp] theorem fIs_bl {S : Sto} {n b : Bool} : fIs n (.bl b) .non S = .ok (.bl n) S := id rfl
@[simp] theorem fIs_lst {S : Sto} {n : Bool} {b : List T} : fIs n (.lst b) .non S = .ok (.bl n) S := id rfl
theorem law_sort_ok {t : T} {S : Sto} (h : Dt t = true) : F__law_sort [t] S = .ok (.int (srt t)) S := by
  have i0 : fIndexL (.lst [.bl true, .bl false, .bl false, .bl false, .bl false, .bl false, .bl true]) [.bl true] S = .ok (.int 0) S := rfl
  have i1 : fIndexL (.lst [.bl false, .bl true, .bl true, .bl false, .bl false, .bl false, .bl true]) [.bl true] S = .ok (.int 1) S := rfl
  have i2 : fIndexL (.lst [.bl false, .bl false, .bl true, .bl false, .bl false, .bl false, .bl true]) [.bl true] S = .ok (.int 2) S := rfl
  have i3 : fIndexL (.lst [.bl false, .bl false, .bl false, .bl true, .bl false, .bl false, .bl true]) [.bl true] S = .ok (.int 3) S := rfl
  have i4 : fIndexL (.lst [.bl false, .bl false, .bl false, .bl false, .bl true, .bl false, .bl true]) [.bl true] S = .ok (.int 4) S := rfl
  cases t with
  | non =>
    simp [F__law_sort, dFun_eq, b__law_sort, isaB, i0]
    rw [gcT_same (by simp)]; rfl
  | bl b =>
    simp [F__law_sort, dFun_eq, b__law_sort, isaB, i1]
    rw [gcT_same (by simp)]; rfl
  | int b =>
    simp [F__law_sort, dFun_eq, b__law_sort, isaB, i2]
    rw [gcT_same (by simp)]; rfl
  | str b =>
    simp [F__law_sort, dFun_eq, b__law_sort, isaB, i3]
    rw [gcT_same (by simp)]; rfl
  | tup b =>
    simp [F__law_sort, dFun_eq, b__law_sort, isaB, i4]
    rw [gcT_same (by simp)]; rfl
  | _ => simp [Dt] at h
theorem eq_self_ok {u : T} {S : Sto} (h : Dt u = true) (h4 : srt u < 4) : fEq true u u S = .ok (.bl false) S := by
  cases u with
  | non => rfl
  | bl b => simp
  | int b => simp
  | str b => simp
  | tup b => simp [srt] at h4
  | _ => simp [Dt] at h
theorem law_same_ok {t : T} {S : Sto} (h : Dt t = true) (hs : sz t ≤ 1000000) : F__law_same [t, t] S = .ok (.bl true) S := by
  let sh := fun (a b c d : Option T) => [some t, some t, some (T.ref S.length), a, b, c, d]
  have hfz : ∀ u, Dt u = true → fz u = u := fun u hu => by cases u <;> first | rfl | simp [Dt] at hu
  let pr := fun u : T => T.tup [u, u]
  simp only [F__law_same, dFun_eq (np := 2) (n := 7) (ts := [t, t]) rfl, b__law_same]
  simp [hfz t h]
  have hstep := while_inv (c := dTest (dBin fGT (dCall fLen (dCons (dVar 2) dNil)) (dC (.int 0)))) (b := L__law_same_1)
    (fun m sl S' => ∃ st : List T, (∀ u ∈ st, Dt u = true) ∧ m = szs st ∧ m ≤ 1000000 ∧ S' = S ++ [.lst (st.map pr)] ∧ ∃ a b c d, sl = sh a b c d) (fun sl S' => S' = S ++ [.lst []]) (by
    rintro m sl S' ⟨st, hD, rfl, hm, rfl, a, b, c, d, rfl⟩
    rcases List.eq_nil_or_concat st with rfl | ⟨st', u, rfl⟩
    · refine .inr ⟨S ++ [.lst []], ?_, rfl⟩
      simp [sh]
    · left
      rw [List.concat_eq_append] at hD hm ⊢
      have hu : Dt u = true := hD u (by simp)
      have hD' : ∀ v ∈ st', Dt v = true := fun v hv => hD v (by simp [hv])
      have ez : szs (st' ++ [u]) = szs st' + sz u := by simp [szs_sum]
      have hp := sz_pos u
      have ls := len_szs st'
      rw [ez] at hm ⊢
      refine ⟨S ++ [.lst (st'.map pr ++ [pr u])], ?_⟩
      have e0 : dTest (dBin fGT (dCall fLen (dCons (dVar 2) dNil)) (dC (.int 0))) (sh a b c d) (S ++ [.lst ((st' ++ [u]).map pr)]) = .ok true (S ++ [.lst (st'.map pr ++ [pr u])]) := by
        simp [sh]
      by_cases h4 : srt u < 4
      · refine ⟨szs st', sh (some u) (some u) (some (.int (srt u))) d, S ++ [.lst (st'.map pr)], e0, by omega, .inl ?_, st', hD', rfl, by omega, rfl, _, _, _, _, rfl⟩
        simp [L__law_same_1, sh, pr, hfz u hu, law_sort_ok hu, h4, eq_self_ok hu h4]
      · obtain ⟨us, rfl⟩ : ∃ us, u = .tup us := by
          cases u with
          | tup us => exact ⟨us, rfl⟩
          | non => simp [srt] at h4
          | bl _ => simp [srt] at h4
          | int _ => simp [srt] at h4
          | str _ => simp [srt] at h4
          | _ => simp [Dt] at hu
        have hus : ∀ v ∈ us, Dt v = true := Dts_all.mp (by simpa [Dt] using hu)
        have lu := len_szs us
        have esz : sz (.tup us) = 1 + szs us := by simp [sz]
        let fr := fun k : Nat => [pr (us[k]?.getD .non)]
        obtain ⟨sl', q1, x', rfl⟩ := for_app (S := S) (src := none) (all := (List.range us.length).map fun k => T.int (k : Nat)) (g := gN 6) (b := L__law_same_0) (fun k : Nat => T.int k) fr (fun sl => ∃ x, sl = sh (some (.tup us)) (some (.tup us)) (some (.int 4)) x) 1 2000000 (fun _ => trivial)
          (List.range us.length) (st'.map pr) (sh (some (.tup us)) (some (.tup us)) (some (.int 4)) d) (fun _ _ => by simp [fr]) (fun k hk acc sl ⟨x, e⟩ hl => by
            subst e
            refine ⟨_, _, sh (some (.tup us)) (some (.tup us)) (some (.int 4)) (some (T.int (k : Nat))), gN_eq _, .inl ?_, _, rfl⟩
            have hk' : k < us.length := by simpa using hk
            have : acc.length < 16777216 := by omega
            have hv := hfz us[k] (hus _ (List.getElem_mem hk'))
            simp [L__law_same_0, sh, this, fr, pr, atI_n, List.getElem?_eq_getElem hk', hv]) (by simp; omega) ⟨d, rfl⟩
        refine ⟨szs st' + szs us, sh (some (.tup us)) (some (.tup us)) (some (.int 4)) x', S ++ [.lst ((st' ++ us).map pr)], e0, by rw [esz]; omega, .inl ?_, st' ++ us, fun v hv => (List.mem_append.mp hv).elim (hD' v) (hus v), by simp [szs_sum], by rw [esz] at hm; omega, rfl, _, _, _, _, rfl⟩
        have e1 : (List.range us.length).flatMap fr = us.map pr := by
          rw [← List.map_eq_flatMap (f := fun k : Nat => pr (us[k]?.getD .non))]
          apply List.ext_getElem?
          intro k
          by_cases hk : k < us.length
          · rw [List.getElem?_map, List.getElem?_range hk, List.getElem?_map, List.getElem?_eq_getElem hk]
            simp [List.getElem?_eq_getElem hk]
          · rw [List.getElem?_eq_none (by simp; omega), List.getElem?_eq_none (by simp; omega)]
        rw [e1, ← List.map_append] at q1
        have es : srt (.tup us) = 4 := rfl
        have hr : dRng1 (dCons (dCall fLen (dCons (dVar 4) dNil)) dNil) (sh (some (.tup us)) (some (.tup us)) (some (.int 4)) d) (S ++ [.lst (st'.map pr)]) = .ok none ((List.range us.length).map fun k => T.int (k : Nat)) (S ++ [.lst (st'.map pr)]) := dRng1_eq (n := us.length) (by simp [sh]) (by omega)
        have hf := dFor_eq (dRng1 (dCons (dCall fLen (dCons (dVar 4) dNil)) dNil)) (gN 6) L__law_same_0 _ _ hr
        simp only [sh] at q1 hf
        simp [L__law_same_1, sh, pr, law_sort_ok hu, es]
        simp only [pr] at q1 hf
        rw [hf, q1]
        simp)
  obtain ⟨sl', S', q1, rfl⟩ := hstep FUEL (sz t) (sh none none none none) (S ++ [.lst [pr t]]) ⟨[t], by simpa using h, by simp [szs], hs, rfl, _, _, _, _, rfl⟩ (by unfold FUEL; omega)
  simp only [sh, pr] at q1
  rw [dWhile_eq, q1]
  simp
  rw [gcT_app (by simp)]
end Bd

/-! claims, asks, denials -/
namespace Bd
open PySem PySem.Spec L2 Dn Pk
inductive Claim where
  | out (e : Side) (t : List Side) | meet (e t : Side) | thr (e : Side) (c : Cell)
def eL (l : List Side) : T := .tup (l.map eS)
def eCl : Claim → T
  | .out e t => .tup [.str "out", eS e, eL t]
  | .meet e t => .tup [.str "meet", eS e, eS t]
  | .thr e c => .tup [.str "through", eS e, eC c]
abbrev Ask := Brd × List Side × List Side
def eA (a : Ask) : T := .tup [eB a.1, eL a.2.1, eL a.2.2]
@[simp] theorem lt_eL (n : Nat) (l : List Side) : (eL l).lt n = true := by simp [eL, ltsM]
@[simp] theorem fz_eL (l : List Side) : fz (eL l) = eL l := id rfl
@[simp] theorem fz_eA (l : Ask) : fz (eA l) = eA l := id rfl
@[simp] theorem lt_eA (n : Nat) (l : Ask) : (eA l).lt n = true := by simp [eA]
@[simp] theorem fz_eCl (c : Claim) : fz (eCl c) = eCl c := by cases c <;> rfl
def faces (b : Brd) (c : Cell) : List Side := Pt.all.filterMap fun p => beyond b (c.1, c.2, p)
def hits (b : Brd) (c : Cell) (s : Side) : Bool := match beyond b s with
  | some t => decide ((t.1, t.2.1) = c)
  | none => false
theorem hits_none {b : Brd} {c : Cell} {s : Side} (h : beyond b s = none) : hits b c s = false := by unfold hits; rw [h]
theorem hits_some {b : Brd} {c : Cell} {s t : Side} (h : beyond b s = some t) : hits b c s = decide ((t.1, t.2.1) = c) := by unfold hits; rw [h]
def mayOf (b : Brd) (c : Cell) : List Side := (ends (shut b c)).filter (hits b c)
@[simp] theorem fIs_eS {n : Bool} {s : Side} {S : Sto} : fIs n (eS s) .non S = .ok (.bl n) S := id rfl
section
variable {b : Brd} {S : Sto} (W : WB b)
include W
theorem beyond_some {s t : Side} : beyond b s = some t ↔ open' b (s.1 + s.2.2.dn) (s.2.1 + s.2.2.rt) = true ∧ (t.1 : Int) = s.1 + s.2.2.dn ∧ (t.2.1 : Int) = s.2.1 + s.2.2.rt ∧ t.2.2 = s.2.2.opp := by
  obtain ⟨r, c, p⟩ := s
  obtain ⟨x, y, q⟩ := t
  unfold beyond
  simp only
  constructor
  · intro h
    split at h
    · rename_i ho
      obtain ⟨h1, _, h2, _⟩ := open_nonneg ho
      simp only [Option.some.injEq, Prod.mk.injEq] at h
      obtain ⟨rfl, rfl, rfl⟩ := h
      exact ⟨ho, by omega, by omega, rfl⟩
    · cases h
  · rintro ⟨h1, h2, h3, rfl⟩
    rw [if_pos h1, ← h2, ← h3]
    simp
omit W in
theorem open_cell {r c : Nat} : open' b r c = true ↔ (r, c) ∈ cells b := by
  rw [mem_cells]
  unfold open'
  simp [and_assoc]
omit W in
theorem opp_dn (p : Pt) : p.opp.dn = -p.dn := by cases p <;> rfl
omit W in
theorem opp_rt (p : Pt) : p.opp.rt = -p.rt := by cases p <;> rfl
omit W in
theorem opp_opp (p : Pt) : p.opp.opp = p := by cases p <;> rfl
omit W in
theorem move_ne (p : Pt) : ¬ (p.dn = 0 ∧ p.rt = 0) := by cases p <;> simp [Pt.dn, Pt.rt]
theorem faces_may {d : Cell} (hd : d ∈ cells b) : sortS (faces b d) = mayOf b d := by
  obtain ⟨dr, dc⟩ := d
  have hd' := mem_cells.mp hd
  simp only at hd'
  refine sortS_of (List.Pairwise.filter _ ends_asc) ?_ fun s => ?_
  · unfold faces
    refine List.Pairwise.filterMap _ ?_ (by decide : Pt.all.Nodup)
    intro p q hpq x hx y hy e
    subst e
    obtain ⟨_, _, _, h1⟩ := (beyond_some W).mp hx
    obtain ⟨_, _, _, h2⟩ := (beyond_some W).mp hy
    simp only at h1 h2
    rw [h1] at h2
    exact hpq (by rw [← opp_opp p, ← opp_opp q, h2])
  · obtain ⟨r, c, q⟩ := s
    unfold faces mayOf hits
    simp only [List.mem_filterMap, List.mem_filter, mem_ends]
    constructor
    · rintro ⟨p, _, hp⟩
      obtain ⟨h1, h2, h3, h4⟩ := (beyond_some W).mp hp
      simp only at h1 h2 h3 h4
      subst h4
      rw [← h2, ← h3] at h1
      have hc := mem_cells.mp (open_cell.mp h1)
      simp only at hc
      have ne : (r, c) ≠ (dr, dc) := fun e => by
        simp only [Prod.mk.injEq] at e
        exact move_ne p ⟨by omega, by omega⟩
      have back : beyond b (r, c, p.opp) = some (dr, dc, p) := by
        rw [beyond_some W]
        simp only [opp_dn, opp_rt, opp_opp, and_true]
        have e1 : (r : Int) + -p.dn = (dr : Nat) := by omega
        have e2 : (c : Int) + -p.rt = (dc : Nat) := by omega
        rw [e1, e2]
        exact ⟨open_cell.mpr hd, rfl, rfl⟩
      refine ⟨⟨?_, ?_⟩, ?_⟩
      · rw [mem_cells, len_shut, wd_shut W]
        refine ⟨hc.1, hc.2.1, ?_⟩
        simp only
        rw [at_shut hc.1 hc.2.1, if_neg ne]
        exact hc.2.2
      · unfold beyond
        simp only [opp_dn, opp_rt]
        have e1 : (r : Int) + -p.dn = (dr : Nat) := by omega
        have e2 : (c : Int) + -p.rt = (dc : Nat) := by omega
        rw [e1, e2, if_neg]
        intro h
        have := (mem_cells.mp (open_cell.mp h)).2.2
        simp only at this
        rw [at_shut hd'.1 hd'.2.1, if_pos rfl] at this
        exact this rfl
      · rw [back]
        simp
    · rintro ⟨⟨h1, h2⟩, h3⟩
      split at h3
      · rename_i t ht
        obtain ⟨x, y, z⟩ := t
        simp only [decide_eq_true_eq, Prod.mk.injEq] at h3
        obtain ⟨rfl, rfl⟩ := h3
        obtain ⟨k1, k2, k3, k4⟩ := (beyond_some W).mp ht
        simp only at k1 k2 k3 k4
        refine ⟨q.opp, Pt.mem_all _, ?_⟩
        rw [beyond_some W]
        simp only [opp_dn, opp_rt, opp_opp, and_true]
        have e1 : (x : Int) + -q.dn = (r : Nat) := by omega
        have e2 : (y : Int) + -q.rt = (c : Nat) := by omega
        rw [e1, e2]
        refine ⟨open_cell.mpr ?_, rfl, rfl⟩
        rw [mem_cells, len_shut, wd_shut W] at h1
        obtain ⟨g1, g2, g3⟩ := h1
        simp only at g1 g2 g3
        rw [mem_cells]
        refine ⟨g1, g2, ?_⟩
        rw [at_shut g1 g2] at g3
        split at g3
        · exact absurd rfl g3
        · exact g3
      · cases h3
theorem facing_cell_ok {r c : Nat} : F_facing_cell [eB b, .int r, .int c] S = .ok (eL (sortS (faces b (r, c)))) S := by
  let sh := fun (x y z : Option T) => [some (eB b), some (T.int r), some (T.int c), some (T.ref S.length), x, y, z]
  let fr := fun p : Pt => (match beyond b (r, c, p) with
    | some s => [eS s]
    | none => [] : List T)
  simp only [F_facing_cell, dFun_eq (np := 3) (n := 7) (ts := [eB b, T.int r, T.int c]) rfl, b_facing_cell]
  simp
  rw [dFor_eq _ _ _ _ _ (dIt_eq (t := c_POINTS) (by simp; rfl) (by rw [fz_c_POINTS]; exact pts_it))]
  obtain ⟨sl', q1, x', y', z', rfl⟩ := for_app (S := S) (src := none) (all := Pt.all.map fun p => T.str p.str) (g := gN 4) (b := L_facing_cell_0) (fun p : Pt => T.str p.str) fr (fun sl => ∃ x y z, sl = sh x y z) 1 100 (fun _ => trivial)
      Pt.all [] (sh none none none) (fun p _ => by simp only [fr]; split <;> simp) (fun p _ acc sl ⟨x, y, z, e⟩ hl => by
        subst e
        have : acc.length < 16777216 := by omega
        refine ⟨_, _, sh (some (.str p.str)) (some (.int (r + p.dn))) (some (.int (c + p.rt))), gN_eq _, .inl ?_, _, _, _, rfl⟩
        simp only [fr, beyond]
        cases ho : open' b (r + p.dn) (c + p.rt) with
        | false => simp [L_facing_cell_0, sh, next_cell_ok, is_open_ok W, ho]
        | true =>
          obtain ⟨h1, _, h2, _⟩ := open_nonneg ho
          obtain ⟨r', hr⟩ := Int.eq_ofNat_of_zero_le h1
          obtain ⟨c', hc⟩ := Int.eq_ofNat_of_zero_le h2
          rw [hr, hc] at ho
          simp [L_facing_cell_0, sh, next_cell_ok, is_open_ok W, ho, hr, hc, opps, this, eS]) (by simp [Pt.all]) ⟨none, none, none, rfl⟩
  simp only [sh] at q1
  rw [q1]
  have e : ([] ++ Pt.all.flatMap fr) = (faces b (r, c)).map eS := by
    simp only [List.nil_append, faces, fr]
    generalize Pt.all = ps
    induction ps with
    | nil => rfl
    | cons p ps ih =>
      rw [List.flatMap_cons, ih, List.filterMap_cons]
      cases beyond b (r, c, p) <;> rfl
  rw [e]
  have hl : (faces b (r, c)).length ≤ 1000000 := Nat.le_trans (List.length_filterMap_le _ _) (by simp [Pt.all])
  simp [fSorted_core (S := S ++ [.lst ((faces b (r, c)).map eS)]) (y := .ref S.length) lstOf_top hl]
  have e2 : T.tup ((sortS (faces b (r, c))).map eS) = eL (sortS (faces b (r, c))) := rfl
  rw [e2, gcT_app (by simp)]
/-- what is asked -/
def ask (b : Brd) : Claim → Ask
  | .out e t => (b, [e], t)
  | .meet e t => (b, [e], [t])
  | .thr e c => (shut b c, [e], mayOf b c)
def Claim.ok (b : Brd) : Claim → Prop
  | .out e t => t.length ≤ 40000
  | .meet e t => True
  | .thr e c => c ∈ cells b
omit W in
theorem s_mo : ¬ (("meet" : Str) = "out") := by decide +kernel
omit W in
theorem s_to : ¬ (("through" : Str) = "out") := by decide +kernel
omit W in
theorem s_tm : ¬ (("through" : Str) = "meet") := by decide +kernel
omit W in
theorem eA_def (a : Brd) (m t : List Side) : T.tup [eB a, eL m, eL t] = eA (a, m, t) := rfl
omit W in
theorem eL1 (s : Side) : T.tup [eS s] = eL [s] := rfl
theorem ask_of_ok {cl : Claim} (h : cl.ok b) : F_ask_of [eB b, eCl cl] S = .ok (eA (ask b cl)) S := by
  cases cl with
  | out e t =>
    simp [F_ask_of, dFun_eq, b_ask_of, eCl, eL1, eA_def]
    rw [gcT_same (by simp)]
    rfl
  | meet e t =>
    simp [F_ask_of, dFun_eq, b_ask_of, eCl, s_mo, eL1, eA_def]
    rw [gcT_same (by simp)]
    rfl
  | thr e c =>
    have hc : c ∈ cells b := h
    obtain ⟨h1, h2, _⟩ := mem_cells.mp hc
    have p := put_kind_ok W (S := S) (k := "") h1 h2
    have f := facing_cell_ok W (S := S) (r := c.1) (c := c.2)
    rw [put_shut W h1 h2] at p
    rw [show ((c.1, c.2) : Cell) = c from rfl] at p f
    rw [faces_may W hc] at f
    have i0 : fIx (eC c) (.int 0) S = .ok (.int c.1) S := by simp [eC]
    have i1 : fIx (eC c) (.int 1) S = .ok (.int c.2) S := by simp [eC]
    simp [F_ask_of, dFun_eq, b_ask_of, eCl, s_to, s_tm, eL1, eA_def, p, f, i0, i1]
    rw [gcT_same (by simp)]
    rfl
theorem len_ends : (ends b).length ≤ 40000 := Nat.le_trans (List.length_filter_le _ _) (len_sides W)
theorem law_ask_ok {cl : Claim} (h : cl.ok b) : F__law_ask [eB b, eCl cl] S = .ok (eA (ask b cl)) S := by
  cases cl with
  | out e t =>
    simp [F__law_ask, dFun_eq, b__law_ask, eCl, eL1, eA_def]
    rw [gcT_same (by simp)]
    rfl
  | meet e t =>
    simp [F__law_ask, dFun_eq, b__law_ask, eCl, s_mo, eL1, eA_def]
    rw [gcT_same (by simp)]
    rfl
  | thr e c =>
    have hc : c ∈ cells b := h
    have W2 : WB (shut b c) := WB_shut W
    have hl := len_ends W2
    let sh := fun (x y : Option T) => [some (eB b), some (eCl (.thr e c)), some (eB (shut b c)), some (T.ref S.length), x, y]
    let fr := fun s : Side => (if hits b c s = true then [eS s] else [] : List T)
    have i2 : ∀ S', fIx (eCl (.thr e c)) (.int 2) S' = .ok (eC c) S' := fun S' => by simp [eCl]
    have i0 : ∀ S', fIx (eCl (.thr e c)) (.int 0) S' = .ok (.str "through") S' := fun S' => by simp [eCl]
    have i1 : ∀ S', fIx (eCl (.thr e c)) (.int 1) S' = .ok (eS e) S' := fun S' => by simp [eCl]
    simp only [F__law_ask, dFun_eq (np := 2) (n := 6) (ts := [eB b, eCl (.thr e c)]) rfl, b__law_ask]
    simp [i0, i1, i2, s_to, s_tm, law_shut_ok W]
    rw [dFor_eq _ _ _ _ _ (dIt_eq (t := .nlst ((ends (shut b c)).map eS)) (src := none) (ts := (ends (shut b c)).map eS) (by simp [law_ends_ok W2]; rfl) rfl)]
    obtain ⟨sl', q1, x', y', rfl⟩ := for_app (S := S) (src := none) (all := (ends (shut b c)).map eS) (g := gN 4) (b := L__law_ask_0) eS fr (fun sl => ∃ x y, sl = sh x y) 1 1000000 (fun _ => trivial)
      (ends (shut b c)) [] (sh none none) (fun p _ => by simp only [fr]; split <;> simp) (fun s _ acc sl ⟨x, y, e⟩ hl => by
        subst e
        have : acc.length < 16777216 := by omega
        refine ⟨_, _, sh (some (eS s)) (some (eO (beyond b s))), gN_eq _, .inl ?_, _, _, rfl⟩
        simp only [fr]
        have hb := law_beyond_ok W (S := S ++ [.lst acc]) (s := s)
        cases ho : beyond b s with
        | none =>
          rw [ho] at hb
          simp [L__law_ask_0, sh, hb, hits_none ho]
        | some t =>
          rw [ho] at hb
          by_cases hq : (t.1, t.2.1) = c
          · simp [L__law_ask_0, sh, hb, eO, i2, hq, this, hits_some ho]
          · simp [L__law_ask_0, sh, hb, eO, i2, hq, this, hits_some ho]) (by simp; omega) ⟨none, none, rfl⟩
    simp only [sh] at q1
    rw [q1]
    have e' : ([] ++ (ends (shut b c)).flatMap fr) = (mayOf b c).map eS := by
      simp only [List.nil_append, mayOf, fr]
      generalize ends (shut b c) = ps
      induction ps with
      | nil => rfl
      | cons p ps ih =>
        rw [List.flatMap_cons, ih, List.filter_cons]
        split <;> simp
    rw [e']
    have e2 : T.tup ((mayOf b c).map eS) = eL (mayOf b c) := rfl
    simp [i1, e2, eL1, eA_def]
    rw [gcT_app (by simp)]
    rfl
/-- the denial -/
def denial (a : Ask) : Ask := (a.1, a.2.1, (ends a.1).filter fun s => !decide (s ∈ a.2.1) && !decide (s ∈ a.2.2))
omit W in
@[simp] theorem fIn_eL {n : Bool} {s : Side} {l : List Side} : fIn n (eS s) (eL l) S = .ok (.bl (if n then !decide (s ∈ l) else decide (s ∈ l))) S := fIn_tS
theorem WB_ask {cl : Claim} : WB (ask b cl).1 := by
  cases cl with
  | out e t => exact W
  | meet e t => exact W
  | thr e c => exact WB_shut W
omit W in
theorem law_denial_ok {a : Ask} (W : WB a.1) : F__law_denial [eA a] S = .ok (eA (denial a)) S := by
  obtain ⟨a, m, t⟩ := a
  have hl : (ends a).length ≤ 40000 := len_ends W
  have hc : ∀ x, C__law_denial_0 [some (eA (a, m, t)), some (eB a), some (eL m), some (eL t), x] S = .ok (.nlst ((denial (a, m, t)).2.2.map eS)) S := by
    intro x
    unfold C__law_denial_0
    rw [dLc_eq _ _ _ _ _ _ _ (dIt_eq (t := .nlst ((ends a).map eS)) (src := none) (ts := (ends a).map eS) (by simp [law_ends_ok W]; rfl) rfl)]
    rw [lcL_map still_none eS (fun s => !decide (s ∈ m) && !decide (s ∈ t)) eS (ends a) [] ?_ (by simp; omega)]
    · simp [denial]
    · intro s hm
      refine ⟨[some (eA (a, m, t)), some (eB a), some (eL m), some (eL t), some (eS s)], by simp [wipeT], ?_, fun _ => ?_⟩
      · by_cases h1 : s ∈ m
        · simp [h1]
        · simp [h1]
      · refine ⟨eS s, ?_, rfl⟩
        simp
  have ht : tupOf (eA (a, m, t)) = some [eB a, eL m, eL t] := rfl
  have e2 : ∀ l : List Side, T.tup (l.map eS) = eL l := fun _ => rfl
  simp [F__law_denial, dFun_eq, b__law_denial, ht, hc, e2, eA_def]
  rw [gcT_same (by simp)]
  rfl
theorem denial_of_ok {cl : Claim} (h : cl.ok b) : F_denial_of [eB b, eCl cl] S = .ok (eA (denial (ask b cl))) S := by
  have W2 := WB_ask W (cl := cl)
  have ha := ask_of_ok W (S := S) h
  revert ha W2
  generalize ask b cl = a
  intro W2 ha
  obtain ⟨a, m, t⟩ := a
  have hl : (ends a).length ≤ 40000 := len_ends W2
  have hc : ∀ x y, C_denial_of_0 [some (eB b), some (eCl cl), some (eB a), some (eL m), some (eL t), x, y] S = .ok (.nlst ((denial (a, m, t)).2.2.map eS)) S := by
    intro x y
    unfold C_denial_of_0
    rw [dLc_eq _ _ _ _ _ _ _ (dIt_eq (t := .tup ((ends a).map eS)) (src := none) (ts := (ends a).map eS) (by simp [ends_of_ok W2]; rfl) rfl)]
    rw [lcL_map still_none eS (fun s => !decide (s ∈ m) && !decide (s ∈ t)) eS (ends a) [] ?_ (by simp; omega)]
    · simp [denial]
    · intro s hm
      refine ⟨[some (eB b), some (eCl cl), some (eB a), some (eL m), some (eL t), x, some (eS s)], by simp [wipeT], ?_, fun _ => ?_⟩
      · by_cases h1 : s ∈ m
        · simp [h1]
        · simp [h1]
      · refine ⟨eS s, ?_, rfl⟩
        simp
  have ht : tupOf (eA (a, m, t)) = some [eB a, eL m, eL t] := rfl
  have e2 : ∀ l : List Side, T.tup (l.map eS) = eL l := fun _ => rfl
  simp [F_denial_of, dFun_eq, b_denial_of, ha, ht, hc, e2, eA_def]
  rw [gcT_same (by simp)]
  rfl
end
end Bd

/-! both are the same -/
namespace Bd
open PySem PySem.Spec L2 Dn Pk
theorem Dts_map {α : Type} {f : α → T} {xs : List α} (h : ∀ x ∈ xs, Dt (f x) = true) : Dts (xs.map f) = true := by
  rw [Dts_all]
  intro t ht
  obtain ⟨x, hx, rfl⟩ := List.mem_map.mp ht
  exact h x hx
theorem szs_map {α : Type} {f : α → T} {n : Nat} : ∀ {xs : List α}, (∀ x ∈ xs, sz (f x) ≤ n) → szs (xs.map f) ≤ xs.length * n
  | [], _ => by simp [szs]
  | x :: xs, h => by
    have := szs_map (f := f) (n := n) (xs := xs) fun z hz => h z (List.mem_cons_of_mem _ hz)
    have := h x List.mem_cons_self
    rw [List.map_cons, szs, List.length_cons, Nat.succ_mul]; omega
@[simp] theorem Dt_eS (s : Side) : Dt (eS s) = true := by simp [eS, Dt, Dts]
@[simp] theorem Dt_eL (l : List Side) : Dt (eL l) = true := by
  unfold eL
  rw [Dt]
  exact Dts_map fun s _ => Dt_eS s
@[simp] theorem Dt_eB (b : Brd) : Dt (eB b) = true := by
  unfold eB
  rw [Dt]
  exact Dts_map fun r _ => by
    unfold eR
    rw [Dt]
    exact Dts_map fun s _ => rfl
@[simp] theorem Dt_eA (a : Ask) : Dt (eA a) = true := by simp [eA, Dt, Dts]
theorem sz_eS (s : Side) : sz (eS s) = 4 := by simp [eS, sz, szs]
theorem sz_eL (l : List Side) : sz (eL l) ≤ 1 + l.length * 4 := by
  unfold eL
  rw [sz]
  have := szs_map (f := eS) (n := 4) (xs := l) fun s _ => by rw [sz_eS]; omega
  omega
theorem sz_eB {b : Brd} (W : WB b) : sz (eB b) ≤ 20000 := by
  unfold eB
  rw [sz]
  have h1 := W.few
  have h2 := W.fewc
  have := szs_map (f := eR) (n := 101) (xs := b) fun r hr => by
    unfold eR
    rw [sz]
    have := szs_map (f := T.str) (n := 1) (xs := r) fun s _ => by simp [sz]
    have := W.rect r hr
    omega
  omega
theorem sz_eA {a : Ask} (W : WB a.1) (h1 : a.2.1.length ≤ 40000) (h2 : a.2.2.length ≤ 40000) : sz (eA a) ≤ 1000000 := by
  have e : sz (eA a) = 1 + (sz (eB a.1) + (sz (eL a.2.1) + (sz (eL a.2.2) + 0))) := by simp [eA, sz, szs]
  have := sz_eB W
  have := sz_eL a.2.1
  have := sz_eL a.2.2
  omega
section
variable {b : Brd} {S : Sto} (W : WB b)
include W
theorem ask_len {cl : Claim} (h : cl.ok b) : (ask b cl).2.1.length ≤ 40000 ∧ (ask b cl).2.2.length ≤ 40000 := by
  cases cl with
  | out e t => exact ⟨by simp [ask], h⟩
  | meet e t => simp [ask]
  | thr e c =>
    refine ⟨by simp [ask], ?_⟩
    exact Nat.le_trans (List.length_filter_le _ _) (len_ends (WB_shut W))
theorem law_right_ok {cl : Claim} (h : cl.ok b) : F__law_right [eB b, eCl cl] S = .ok (.bl true) S := by
  obtain ⟨l1, l2⟩ := ask_len W h
  have W2 := WB_ask W (cl := cl)
  have a1 := ask_of_ok W (S := S) h
  have a2 := law_ask_ok W (S := S) h
  have a3 := denial_of_ok W (S := S) h
  have a4 := law_denial_ok (S := S) W2
  have s1 := law_same_ok (t := eA (ask b cl)) (S := S) (by simp) (sz_eA W2 l1 l2)
  have s2 := law_same_ok (t := eA (denial (ask b cl))) (S := S) (by simp) (sz_eA (by exact W2) (by exact l1) (Nat.le_trans (List.length_filter_le _ _) (len_ends W2)))
  simp [F__law_right, dFun_eq, b__law_right, a1, a2, a3, a4, s1, s2, permL]
  rw [gcT_same (by simp)]
end
end Bd

/-! the law's well: whatever it tells is within its bound -/
namespace Bd
open PySem PySem.Spec L2 Dn Pk
/-! ### the well -/
def Well (S : Sto) : Prop := ∃ (st : Int) (ds : List Int), S[1]? = some (.lst (ds.map T.int)) ∧ S[2]? = some (.lst [.int st, .ref 1])
structure Wl (S S' : Sto) : Prop where
  len : S'.length = S.length
  w : Well S'
  out : ∀ i : Nat, i ≠ 1 → i ≠ 2 → S'[i]? = S[i]?
theorem ltsI (n : Nat) (ds : List Int) : T.lts n (ds.map T.int) = true := ltsM fun _ _ => rfl
theorem Wl.cut {S S' : Sto} (h : Wl S S') : CutOk S S' := by
  obtain ⟨h1, ⟨st, ds, w1, w2⟩, h2⟩ := h
  have hl : 2 < S'.length := (List.getElem?_eq_some_iff.mp w2).1
  refine ⟨by omega, fun i hi o ho => ?_⟩
  by_cases e1 : i = 1
  · subst e1
    rw [w1] at ho; cases ho
    exact .inr (ltsI _ _)
  · by_cases e2 : i = 2
    · subst e2
      rw [w2] at ho; cases ho
      refine .inr ?_
      simp [MO.lt, T.lts, T.lt]
      omega
    · exact .inl (by rw [← h2 i e1 e2]; exact ho)
theorem Wl.refl {S : Sto} (h : Well S) : Wl S S := ⟨rfl, h, fun _ _ _ => rfl⟩
theorem Wl.trans {S S1 S2 : Sto} (a : Wl S S1) (b : Wl S1 S2) : Wl S S2 := ⟨b.len.trans a.len, b.w, fun i h1 h2 => (b.out i h1 h2).trans (a.out i h1 h2)⟩
theorem Wl.take {S S' : Sto} (h : Wl S S') : S'.take S.length = S' := by rw [← h.len]; simp
theorem Wl.gcT {S S' : Sto} (h : Wl S S') {t : T} (ht : t.lt S.length = true) : gcT S t S' = .ok t S' := by rw [gcT_cut h.cut ht, h.take]
theorem l53 : Nat.log2 53 < 9000 := by decide +kernel
theorem dip_ok {S : Sto} (hw : Well S) {n : Int} (hn : n < 2 ^ 60) : ∃ told S', F__law_dip [.ref 2, .int n] S = .ok (.int told) S' ∧ 0 ≤ told ∧ (told < n ∨ told = 0 ∧ n < 2) ∧ Wl S S' := by
  have hw0 := hw
  obtain ⟨st, ds, h1, h2⟩ := hw
  have hl : 2 < S.length := (List.getElem?_eq_some_iff.mp h2).1
  by_cases hc : n < 2
  · refine ⟨0, S, ?_, Int.le_refl _, .inr ⟨rfl, hc⟩, .refl hw0⟩
    simp [F__law_dip, dFun_eq, b__law_dip, hc]
    rw [gcT_same (by simp)]
  · have n0 : 0 < n := by omega
    rcases List.eq_nil_or_concat ds with rfl | ⟨ds', d, rfl⟩
    · -- the stir
      have w : Wl S (S.set 2 (.lst [.int ((st * 46649 + 5501) % 2147483629), .ref 1])) := ⟨by simp, ⟨_, [], by simp [h1], by simp [hl]; rfl⟩, fun i _ h => by simp [List.getElem?_set_ne (Ne.symm h)]⟩
      refine ⟨(((st * 46649 + 5501) % 2147483629) / 53) % n, _, ?_, Int.emod_nonneg _ (by omega), .inl (Int.emod_lt_of_pos _ n0), w⟩
      have w1 : (S.set 2 (.lst [.int ((st * 46649 + 5501) % 2147483629), .ref 1]))[2]? = some (.lst [.int ((st * 46649 + 5501) % 2147483629), .ref 1]) := by simp [hl]
      simp [F__law_dip, dFun_eq, b__law_dip, hc, fIx_ref h2, fLen_ref h1, CMulA, CMul, dput_r0 h2, fIx_ref w1, CDivW, n0, l53]
      rw [w.gcT (by simp)]
    · rw [List.concat_eq_append] at h1
      have w1 : (S.set 1 (.lst (ds'.map T.int ++ [.int (d / n)])))[1]? = some (.lst (ds'.map T.int ++ [.int (d / n)])) := List.getElem?_set_self (by omega)
      have w2 : (S.set 1 (.lst (ds'.map T.int ++ [.int (d / n)])))[2]? = some (.lst [.int st, .ref 1]) := by simp [h2]
      have h1' : S[1]? = some (.lst (ds'.map T.int ++ [.int d])) := by simpa using h1
      have wa : Wl S (S.set 1 (.lst (ds'.map T.int ++ [.int (d / n)]))) := ⟨by simp, ⟨st, ds' ++ [d / n], by simpa using w1, w2⟩, fun i h _ => by simp [List.getElem?_set_ne (Ne.symm h)]⟩
      have wb : Wl S ((S.set 1 (.lst (ds'.map T.int ++ [.int (d / n)]))).set 1 (.lst (ds'.map T.int))) := ⟨by simp, ⟨st, ds', List.getElem?_set_self (by simp; omega), by simp [h2]⟩, fun i h _ => by simp [List.getElem?_set_ne (Ne.symm h)]⟩
      have lg : n.natAbs.log2 < 9000 := by
        exact Nat.lt_of_lt_of_le (PySem.Flt.log2_lt_of (k := 60) (by omega) (by omega)) (by omega)
      have e := Int.emod_nonneg d (b := n) (by omega)
      have e2 := Int.emod_lt_of_pos d n0
      by_cases hz : d / n = 0
      · rw [hz] at w1 w2 wb
        rw [List.set_set] at wb
        refine ⟨d % n, _, ?_, e, .inl e2, wb⟩
        simp [F__law_dip, dFun_eq, b__law_dip, hc, fIx_ref h2, fLen_ref h1', fIx_ref h1', n0, CDivW, lg, dput_rm1 h1', fIx_ref w1, fIx_ref w2, hz, mTy_ref w1, fPop_ref w1 (t := .int 0) (by simp)]
        rw [wb.gcT (by simp)]
      · refine ⟨d % n, _, ?_, e, .inl e2, wa⟩
        simp [F__law_dip, dFun_eq, b__law_dip, hc, fIx_ref h2, fLen_ref h1', fIx_ref h1', n0, CDivW, lg, dput_rm1 h1', fIx_ref w1, fIx_ref w2, hz]
        rw [wa.gcT (by simp)]

/-! ### more objects behind -/
theorem Well.app {S : Sto} (h : Well S) (X : Sto) : Well (S ++ X) := by
  obtain ⟨st, ds, h1, h2⟩ := h
  have l1 := (List.getElem?_eq_some_iff.mp h1).1
  have l2 := (List.getElem?_eq_some_iff.mp h2).1
  exact ⟨st, ds, by rw [List.getElem?_append_left l1]; exact h1, by rw [List.getElem?_append_left l2]; exact h2⟩
theorem Wl.split {S X S2 : Sto} (w : Well S) (h : Wl (S ++ X) S2) : ∃ S1, S2 = S1 ++ X ∧ Wl S S1 := by
  obtain ⟨st, ds, h1, h2⟩ := w
  have l2 := (List.getElem?_eq_some_iff.mp h2).1
  obtain ⟨hl, ⟨st', ds', w1, w2⟩, ho⟩ := h
  rw [List.length_append] at hl
  have e : S2 = S2.take S.length ++ X := by
    apply List.ext_getElem?
    intro i
    by_cases hi : i < S.length
    · rw [List.getElem?_append_left (by rw [List.length_take]; omega), List.getElem?_take_of_lt hi]
    · rw [ho i (by omega) (by omega), List.getElem?_append_right (by omega), List.getElem?_append_right (by rw [List.length_take]; omega), List.length_take, Nat.min_eq_left (by omega)]
  refine ⟨S2.take S.length, e, ⟨by rw [List.length_take]; omega, ⟨st', ds', by rw [List.getElem?_take_of_lt (by omega)]; exact w1, by rw [List.getElem?_take_of_lt (by omega)]; exact w2⟩, fun i h1 h2 => ?_⟩⟩
  by_cases hi : i < S.length
  · rw [List.getElem?_take_of_lt hi, ho i h1 h2, List.getElem?_append_left hi]
  · rw [List.getElem?_eq_none (by rw [List.length_take]; omega), List.getElem?_eq_none (by omega)]
/-- a look into the well, objects behind it -/
theorem dip_app {S : Sto} (hw : Well S) (X : Sto) {n : Int} (hn : n < 2 ^ 60) : ∃ told S1, F__law_dip [.ref 2, .int n] (S ++ X) = .ok (.int told) (S1 ++ X) ∧ 0 ≤ told ∧ (told < n ∨ told = 0 ∧ n < 2) ∧ Wl S S1 := by
  obtain ⟨told, S2, h1, h2, h3, h4⟩ := dip_ok (hw.app X) hn
  obtain ⟨S1, rfl, h5⟩ := h4.split hw
  exact ⟨told, S1, h1, h2, h3, h5⟩
theorem dip_nat {S : Sto} (hw : Well S) (X : Sto) {n : Nat} (hn : n < 2 ^ 60) (h0 : 0 < n) : ∃ (told : Nat) (S1 : Sto), F__law_dip [.ref 2, .int n] (S ++ X) = .ok (.int told) (S1 ++ X) ∧ told < n ∧ Wl S S1 := by
  obtain ⟨told, S1, h1, h2, h3, h4⟩ := dip_app hw X (n := (n : Int)) (by omega)
  obtain ⟨k, rfl⟩ := Int.eq_ofNat_of_zero_le h2
  exact ⟨k, S1, h1, by omega, h4⟩
theorem dip0 {S : Sto} (hw : Well S) {n : Nat} (hn : n < 2 ^ 60) (h0 : 0 < n) : ∃ (told : Nat) (S1 : Sto), F__law_dip [.ref 2, .int n] S = .ok (.int told) S1 ∧ told < n ∧ Wl S S1 := by
  have := dip_nat hw [] hn h0
  simpa using this
theorem fPopAt_ref {S : Sto} {k j : Nat} {ts : List T} (h : S[k]? = some (.lst ts)) (hj : j < ts.length) (hb : ts.length ≤ 2 ^ 60) : fPopAt (.ref k) [.int j] S = .ok ts[j] (S.set k (.lst (ts.eraseIdx j))) := by
  unfold fPopAt
  have e : seqIndex? (j : Int) ts.length = some j := by
    have h0 : ¬ ((j : Int) < 0) := by omega
    unfold seqIndex?
    simp [h0, hj]
  simp only [h, e, List.getElem?_eq_getElem hj]
  rw [if_pos (by omega)]
theorem gcT_refw {S S' : Sto} {k : Nat} {ts : List T} (c : CutOk S S') (hk : S.length ≤ k) (h : S'[k]? = some (.lst ts)) (h2 : T.lts S.length ts = true) : gcT S (.ref k) S' = .ok (.nlst ts) (S'.take S.length) := by
  unfold Dn.gcT
  rw [if_pos c, if_neg (by rw [T.lt]; simp; omega)]
  simp only [h]
  rw [if_pos h2]
theorem Wl.cutA {S S1 : Sto} (h : Wl S S1) (X : Sto) : CutOk S (S1 ++ X) := by
  obtain ⟨c1, c2⟩ := h.cut
  refine ⟨by simp; omega, fun i hi o ho => ?_⟩
  rw [List.getElem?_append_left (by have := h.len; omega)] at ho
  exact c2 i hi o ho
theorem Wl.takeA {S S1 : Sto} (h : Wl S S1) (X : Sto) : (S1 ++ X).take S.length = S1 := by rw [← h.len]; simp
theorem Wl.gcA {S S1 : Sto} (h : Wl S S1) (X : Sto) {t : T} (ht : t.lt S.length = true) : Dn.gcT S t (S1 ++ X) = .ok t S1 := by rw [gcT_cut (h.cutA X) ht, h.takeA]
section
variable {S : Sto} {a b o : MO}
@[simp] theorem two_g0 : (S ++ [a, b])[S.length]? = some a := by simp
@[simp] theorem two_g1 : (S ++ [a, b])[S.length + 1]? = some b := by simp
@[simp] theorem two_s0 : List.set (S ++ [a, b]) S.length o = S ++ [o, b] := by simp
@[simp] theorem two_s1 : List.set (S ++ [a, b]) (S.length + 1) o = S ++ [a, o] := by simp
end
theorem stirred_ok {S : Sto} (hw : Well S) {ts : List T} (hl : ts.length ≤ 100000) (hp : T.lts 0 ts = true) (hfz : ∀ t ∈ ts, fz t = t) : ∃ told S', F__law_stirred [.ref 2, .lst ts] S = .ok (.nlst told) S' ∧ told.Perm ts ∧ Wl S S' := by
  let sh := [some (T.ref 2), some (T.lst ts), some (T.ref S.length), some (T.ref (S.length + 1))]
  have hstep := while_inv (c := dTest (dBin fGT (dCall fLen (dCons (dVar 2) dNil)) (dC (.int 0)))) (b := L__law_stirred_0)
    (fun m sl S' => ∃ rest told S1, S' = S1 ++ [.lst rest, .lst told] ∧ Wl S S1 ∧ (rest ++ told).Perm ts ∧ m = rest.length ∧ sl = sh) (fun sl S' => ∃ told S1, S' = S1 ++ [.lst [], .lst told] ∧ Wl S S1 ∧ told.Perm ts ∧ sl = sh) (by
    rintro m sl S' ⟨rest, told, S1, rfl, w1, hperm, rfl, rfl⟩
    have el : S1.length = S.length := w1.len
    have g0 : (S1 ++ [.lst rest, .lst told])[S.length]? = some (.lst rest) := by rw [← el]; exact two_g0
    have hlen := hperm.length_eq
    rw [List.length_append] at hlen
    cases hr : rest with
    | nil =>
      subst hr
      refine .inr ⟨_, ?_, told, S1, rfl, w1, by simpa using hperm, rfl⟩
      simp [sh, fLen_ref g0]
    | cons r0 rs =>
      rw [← hr]
      have hpos : 0 < rest.length := by rw [hr]; simp
      left
      obtain ⟨k, S2, d1, d2, d3⟩ := dip_nat w1.w [.lst rest, .lst told] (n := rest.length) (by omega) hpos
      have w2 := w1.trans d3
      have el2 : S2.length = S.length := w2.len
      have g2 : (S2 ++ [.lst rest, .lst told])[S.length]? = some (.lst rest) := by rw [← el2]; exact two_g0
      have s2 : List.set (S2 ++ [.lst rest, .lst told]) S.length (.lst (rest.eraseIdx k)) = S2 ++ [.lst (rest.eraseIdx k), .lst told] := by rw [← el2]; exact two_s0
      have g3 : (S2 ++ [.lst (rest.eraseIdx k), .lst told])[S.length + 1]? = some (.lst told) := by rw [← el2]; exact two_g1
      have s3 : List.set (S2 ++ [.lst (rest.eraseIdx k), .lst told]) (S.length + 1) (.lst (told ++ [rest[k]])) = S2 ++ [.lst (rest.eraseIdx k), .lst (told ++ [rest[k]])] := by rw [← el2]; exact two_s1
      have g4 : (S1 ++ [.lst rest, .lst told])[S.length + 1]? = some (.lst told) := by rw [← el]; exact two_g1
      have hz : fz rest[k] = rest[k] := hfz _ (hperm.subset (List.mem_append_left _ (List.getElem_mem d2)))
      have hc : told.length < 16777216 := by omega
      have e0 : dTest (dBin fGT (dCall fLen (dCons (dVar 2) dNil)) (dC (.int 0))) sh (S1 ++ [.lst rest, .lst told]) = .ok true (S1 ++ [.lst rest, .lst told]) := by
        simp [sh, fLen_ref g0, hpos]
      refine ⟨S1 ++ [.lst rest, .lst told], rest.length - 1, sh, S2 ++ [.lst (rest.eraseIdx k), .lst (told ++ [rest[k]])], e0, by omega, .inl ?_, rest.eraseIdx k, told ++ [rest[k]], S2, rfl, w2, ?_, by rw [List.length_eraseIdx_of_lt d2], rfl⟩
      · simp [L__law_stirred_0, sh, mTy_ref g0, mTy_ref g4, fLen_ref g0, d1, fPopAt_ref g2 d2 (by omega), s2, hz, fAppend_ref g3, hc, s3]
      · refine List.Perm.trans ?_ hperm
        have e1 : rest.eraseIdx k = rest.take k ++ rest.drop (k + 1) := List.eraseIdx_eq_take_drop_succ ..
        have e2 : rest = rest.take k ++ rest[k] :: rest.drop (k + 1) := by rw [← List.drop_eq_getElem_cons d2, List.take_append_drop]
        generalize rest[k] = x at e2
        rw [e1]
        generalize rest.take k = p at e2
        generalize rest.drop (k + 1) = q at e2
        subst e2
        rw [List.append_assoc, List.append_assoc, List.cons_append]
        refine List.Perm.append_left _ ?_
        rw [← List.append_assoc]
        exact List.perm_append_singleton _ _)
  obtain ⟨sl', S', q1, told, S1, rfl, w1, hperm, rfl⟩ := hstep FUEL ts.length sh (S ++ [.lst ts, .lst []]) ⟨ts, [], S, rfl, .refl hw, by simp, rfl, rfl⟩ (by unfold FUEL; omega)
  refine ⟨told, S1, ?_, hperm, w1⟩
  have g1 : (S1 ++ [.lst [], .lst told])[S.length + 1]? = some (.lst told) := by rw [← w1.len]; exact two_g1
  have hpt : T.lts S.length told = true := by
    rw [T.lts_all, List.all_eq_true]
    intro t ht
    have := hperm.subset ht
    rw [T.lts_all, List.all_eq_true] at hp
    exact T.lt_mono (Nat.zero_le _) (hp t this)
  simp only [sh] at q1
  simp [F__law_stirred, dFun_eq, b__law_stirred]
  rw [dWhile_eq, q1]
  simp
  rw [gcT_refw (w1.cutA _) (by omega) g1 hpt, w1.takeA]
end Bd

/-! the chest: whatever is pulled is within its bound -/
namespace Bd
open PySem PySem.Spec L2 Dn Pk
def Cw (S : Sto) : Prop := ∃ (m : Int) (ds : List Int), ds.length ≤ 1000 ∧ S[0]? = some (.lst (ds.map T.int)) ∧ S[1]? = some (.lst [.ref 0, .int m])
structure Ch (S S' : Sto) : Prop where
  len : S'.length = S.length
  w : Cw S'
  out : ∀ i : Nat, i ≠ 0 → i ≠ 1 → S'[i]? = S[i]?
theorem Ch.cut {S S' : Sto} (h : Ch S S') : CutOk S S' := by
  obtain ⟨h1, ⟨m, ds, _, w1, w2⟩, h2⟩ := h
  have hl : 1 < S'.length := (List.getElem?_eq_some_iff.mp w2).1
  refine ⟨by omega, fun i hi o ho => ?_⟩
  by_cases e1 : i = 0
  · subst e1
    rw [w1] at ho; cases ho
    exact .inr (ltsI _ _)
  · by_cases e2 : i = 1
    · subst e2
      rw [w2] at ho; cases ho
      refine .inr ?_
      simp [MO.lt, T.lts, T.lt]
      omega
    · exact .inl (by rw [← h2 i e1 e2]; exact ho)
theorem Ch.refl {S : Sto} (h : Cw S) : Ch S S := ⟨rfl, h, fun _ _ _ => rfl⟩
theorem Ch.trans {S S1 S2 : Sto} (a : Ch S S1) (b : Ch S1 S2) : Ch S S2 := ⟨b.len.trans a.len, b.w, fun i h1 h2 => (b.out i h1 h2).trans (a.out i h1 h2)⟩
theorem Ch.take {S S' : Sto} (h : Ch S S') : S'.take S.length = S' := by rw [← h.len]; simp
theorem Ch.gcT {S S' : Sto} (h : Ch S S') {t : T} (ht : t.lt S.length = true) : Dn.gcT S t S' = .ok t S' := by rw [gcT_cut h.cut ht, h.take]
theorem l101 : Nat.log2 101 < 9000 := by decide +kernel
theorem pull_ok {S : Sto} (hw : Cw S) {n : Int} (hn : n < 2 ^ 60) : ∃ told S', F__law_pull_v1 [.ref 1, .int n] S = .ok (.int told) S' ∧ 0 ≤ told ∧ (told < n ∨ told = 0 ∧ n < 2) ∧ Ch S S' := by
  have hw0 := hw
  obtain ⟨m, ds, hsz, h1, h2⟩ := hw
  have hl : 1 < S.length := (List.getElem?_eq_some_iff.mp h2).1
  by_cases hc : n < 2
  · refine ⟨0, S, ?_, Int.le_refl _, .inr ⟨rfl, hc⟩, .refl hw0⟩
    simp [F__law_pull_v1, dFun_eq, b__law_pull_v1, hc]
    rw [gcT_same (by simp)]
  · have n0 : 0 < n := by omega
    have lg : n.natAbs.log2 < 9000 := Nat.lt_of_lt_of_le (PySem.Flt.log2_lt_of (k := 60) (by omega) (by omega)) (by omega)
    rcases List.eq_nil_or_concat ds with rfl | ⟨ds', d, rfl⟩
    · have w : Ch S (S.set 1 (.lst [.ref 0, .int ((m * 48271 + 8209) % 2147483423)])) := ⟨by simp, ⟨_, [], by simp, by simp [h1], by simp [hl]; rfl⟩, fun i _ h => by simp [List.getElem?_set_ne (Ne.symm h)]⟩
      refine ⟨(((m * 48271 + 8209) % 2147483423) / 101) % n, _, ?_, Int.emod_nonneg _ (by omega), .inl (Int.emod_lt_of_pos _ n0), w⟩
      have w1 : (S.set 1 (.lst [.ref 0, .int ((m * 48271 + 8209) % 2147483423)]))[1]? = some (.lst [.ref 0, .int ((m * 48271 + 8209) % 2147483423)]) := by simp [hl]
      have p1 : dput S (.ref 1) (.int 1) (.int ((m * 48271 + 8209) % 2147483423)) = some (S.set 1 (.lst [.ref 0, .int ((m * 48271 + 8209) % 2147483423)])) := dput_ref h2 (ixN_nat (m := 1) (by simp))
      simp [F__law_pull_v1, dFun_eq, b__law_pull_v1, hc, fIx_ref h2, fLen_ref h1, CMulA, CMul, p1, fIx_ref w1, CDivW, n0, l101]
      rw [w.gcT (by simp)]
    · rw [List.concat_eq_append] at h1 hsz
      have hsz2 : ds'.length < 1000 := by simp at hsz; omega
      have h1' : S[0]? = some (.lst (ds'.map T.int ++ [.int d])) := by simpa using h1
      have w1 : (S.set 0 (.lst (ds'.map T.int)))[0]? = some (.lst (ds'.map T.int)) := List.getElem?_set_self (by omega)
      have w2 : (S.set 0 (.lst (ds'.map T.int)))[1]? = some (.lst [.ref 0, .int m]) := by simp [h2]
      have e := Int.emod_nonneg d (b := n) (by omega)
      have e2 := Int.emod_lt_of_pos d n0
      have wa : Ch S (S.set 0 (.lst (ds'.map T.int))) := ⟨by simp, ⟨m, ds', by omega, w1, w2⟩, fun i h _ => by simp [List.getElem?_set_ne (Ne.symm h)]⟩
      by_cases hz : d < n
      · refine ⟨d % n, _, ?_, e, .inl e2, wa⟩
        have hz2 : ¬ n ≤ d := by omega
        simp [F__law_pull_v1, dFun_eq, b__law_pull_v1, hc, fIx_ref h2, fLen_ref h1', mTy_ref h1', fPop_ref h1' (t := .int d) (by simp), n0, hz2, hz]
        rw [wa.gcT (by simp)]
      · have hz2 : n ≤ d := by omega
        have hb : ds'.length < 16777216 := by omega
        · have w3 : Ch S (S.set 0 (.lst (ds'.map T.int ++ [.int (d / n)]))) := ⟨by simp, ⟨m, ds' ++ [d / n], by simp; omega, by simp [show 0 < S.length by omega], by simp [h2]⟩, fun i h _ => by simp [List.getElem?_set_ne (Ne.symm h)]⟩
          refine ⟨d % n, _, ?_, e, .inl e2, w3⟩
          simp [F__law_pull_v1, dFun_eq, b__law_pull_v1, hc, fIx_ref h2, fIx_ref w2, fLen_ref h1', mTy_ref h1', mTy_ref w1, fPop_ref h1' (t := .int d) (by simp), n0, hz2, hz, CDivW, lg, fAppend_ref w1, hb]
          rw [w3.gcT (by simp)]

theorem Cw.app {S : Sto} (h : Cw S) (X : Sto) : Cw (S ++ X) := by
  obtain ⟨m, ds, h0, h1, h2⟩ := h
  have l1 := (List.getElem?_eq_some_iff.mp h1).1
  have l2 := (List.getElem?_eq_some_iff.mp h2).1
  exact ⟨m, ds, h0, by rw [List.getElem?_append_left l1]; exact h1, by rw [List.getElem?_append_left l2]; exact h2⟩
theorem Ch.split {S X S2 : Sto} (w : Cw S) (h : Ch (S ++ X) S2) : ∃ S1, S2 = S1 ++ X ∧ Ch S S1 := by
  obtain ⟨m, ds, h0, h1, h2⟩ := w
  have l2 := (List.getElem?_eq_some_iff.mp h2).1
  obtain ⟨hl, ⟨m', ds', w0, w1, w2⟩, ho⟩ := h
  rw [List.length_append] at hl
  have e : S2 = S2.take S.length ++ X := by
    apply List.ext_getElem?
    intro i
    by_cases hi : i < S.length
    · rw [List.getElem?_append_left (by rw [List.length_take]; omega), List.getElem?_take_of_lt hi]
    · rw [ho i (by omega) (by omega), List.getElem?_append_right (by omega), List.getElem?_append_right (by rw [List.length_take]; omega), List.length_take, Nat.min_eq_left (by omega)]
  refine ⟨S2.take S.length, e, ⟨by rw [List.length_take]; omega, ⟨m', ds', w0, by rw [List.getElem?_take_of_lt (by omega)]; exact w1, by rw [List.getElem?_take_of_lt (by omega)]; exact w2⟩, fun i h1 h2 => ?_⟩⟩
  by_cases hi : i < S.length
  · rw [List.getElem?_take_of_lt hi, ho i h1 h2, List.getElem?_append_left hi]
  · rw [List.getElem?_eq_none (by rw [List.length_take]; omega), List.getElem?_eq_none (by omega)]
theorem pull_nat {S : Sto} (hw : Cw S) (X : Sto) (n : Nat) (h0 : 0 < n) (hn : n < 2 ^ 60) : ∃ (told : Nat) (S1 : Sto), F__law_pull_v1 [.ref 1, .int n] (S ++ X) = .ok (.int told) (S1 ++ X) ∧ told < n ∧ Ch S S1 := by
  obtain ⟨told, S2, h1, h2, h3, h4⟩ := pull_ok (hw.app X) (n := (n : Int)) (by omega)
  obtain ⟨S1, rfl, h5⟩ := h4.split hw
  obtain ⟨k, rfl⟩ := Int.eq_ofNat_of_zero_le h2
  exact ⟨k, S1, h1, by omega, h5⟩
theorem pull0 {S : Sto} (hw : Cw S) (n : Nat) (h0 : 0 < n) (hn : n < 2 ^ 60) : ∃ (told : Nat) (S1 : Sto), F__law_pull_v1 [.ref 1, .int n] S = .ok (.int told) S1 ∧ told < n ∧ Ch S S1 := by
  have := pull_nat hw [] n h0 hn
  simpa using this
theorem Ch.cutA {S S1 : Sto} (h : Ch S S1) (X : Sto) : CutOk S (S1 ++ X) := by
  obtain ⟨c1, c2⟩ := h.cut
  refine ⟨by simp; omega, fun i hi o ho => ?_⟩
  rw [List.getElem?_append_left (by have := h.len; omega)] at ho
  exact c2 i hi o ho
theorem Ch.takeA {S S1 : Sto} (h : Ch S S1) (X : Sto) : (S1 ++ X).take S.length = S1 := by rw [← h.len]; simp
theorem Ch.gcA {S S1 : Sto} (h : Ch S S1) (X : Sto) {t : T} (ht : t.lt S.length = true) : Dn.gcT S t (S1 ++ X) = .ok t S1 := by rw [gcT_cut (h.cutA X) ht, h.takeA]
theorem MO_lt_mono {m n : Nat} (h : m ≤ n) {o : MO} (q : o.lt m = true) : o.lt n = true := by
  cases o with
  | lst ts => exact T.lts_mono h q
  | dK ts => exact List.all_eq_true.mpr fun p hp => T.lt_mono h (List.all_eq_true.mp q p hp)
  | dT ts => exact List.all_eq_true.mpr fun p hp => T.lt_mono h (List.all_eq_true.mp q p hp)
  | ins c fs => exact List.all_eq_true.mpr fun p hp => T.lt_mono h (List.all_eq_true.mp q p hp)
/-- one of a row -/
theorem from_tup {S : Sto} (hw : Cw S) (X : Sto) (ts : List T) (h0 : 0 < ts.length) (hn : ts.length ≤ 1000) (hl : T.lts 0 ts = true) : ∃ (i : Nat) (t : T) (S1 : Sto), F__law_from_v1 [.ref 1, .tup ts] (S ++ X) = .ok t (S1 ++ X) ∧ ts[i]? = some t ∧ Ch S S1 := by
  obtain ⟨i, S1, e1, e2, w⟩ := pull_nat hw X ts.length h0 (by omega)
  refine ⟨i, ts[i], S1, ?_, List.getElem?_eq_getElem e2, w⟩
  simp [F__law_from_v1, dFun_eq, b__law_from_v1, e1, atI_n, List.getElem?_eq_getElem e2]
  have hlt : ts[i].lt (S ++ X).length = true := by
    rw [T.lts_all, List.all_eq_true] at hl
    exact T.lt_mono (Nat.zero_le _) (hl _ (List.getElem_mem e2))
  have hc : CutOk (S ++ X) (S1 ++ X) := by
    obtain ⟨c1, c2⟩ := w.cut
    refine ⟨by simp; omega, fun j hj o ho => ?_⟩
    by_cases h : j < S.length
    · rw [List.getElem?_append_left (by have := w.len; omega)] at ho
      rw [List.getElem?_append_left h]
      rcases c2 j h o ho with q | q
      · exact .inl q
      · exact .inr (by exact MO_lt_mono (by simp) q)
    · have := w.len
      rw [List.getElem?_append_right (by omega)] at ho
      rw [List.getElem?_append_right (by omega)]
      exact .inl (by rw [show j - S.length = j - S1.length by omega]; exact ho)
  rw [gcT_cut hc (by simpa using hlt)]
  rw [show (S ++ X).length = (S1 ++ X).length by simp [w.len], List.take_length]
end Bd

/-! _law_same (the second one) of a thing with itself; the chest at the start -/
namespace Bd
open PySem PySem.Spec L2 Dn Pk
theorem law_whole_int {i : Int} {S : Sto} : F__law_whole [.int i] S = .ok (.bl true) S := by
  simp [F__law_whole, dFun_eq, b__law_whole, isaB]
  rw [gcT_same (by simp)]
theorem same_ok {t : T} {S : Sto} (h : Dt t = true) (hs : sz t ≤ 1000000) : F__law_same_v1 [t, t] S = .ok (.bl true) S := by
  let sh := fun (a b c : Option T) => [some t, some t, some (T.ref S.length), a, b, c]
  have hfz : ∀ u, Dt u = true → fz u = u := fun u hu => by cases u <;> first | rfl | simp [Dt] at hu
  let pr := fun u : T => T.tup [u, u]
  simp only [F__law_same_v1, dFun_eq (np := 2) (n := 6) (ts := [t, t]) rfl, b__law_same_v1]
  simp [hfz t h]
  have hstep := while_inv (c := dTest (dBin fGT (dCall fLen (dCons (dVar 2) dNil)) (dC (.int 0)))) (b := L__law_same_v1_1)
    (fun m sl S' => ∃ st : List T, (∀ u ∈ st, Dt u = true) ∧ m = szs st ∧ m ≤ 1000000 ∧ S' = S ++ [.lst (st.map pr)] ∧ ∃ a b c, sl = sh a b c) (fun sl S' => S' = S ++ [.lst []]) (by
    rintro m sl S' ⟨st, hD, rfl, hm, rfl, a, b, c, rfl⟩
    rcases List.eq_nil_or_concat st with rfl | ⟨st', u, rfl⟩
    · refine .inr ⟨S ++ [.lst []], ?_, rfl⟩
      simp [sh]
    · left
      rw [List.concat_eq_append] at hD hm ⊢
      have hu : Dt u = true := hD u (by simp)
      have hD' : ∀ v ∈ st', Dt v = true := fun v hv => hD v (by simp [hv])
      have ez : szs (st' ++ [u]) = szs st' + sz u := by simp [szs_sum]
      have hp := sz_pos u
      have ls := len_szs st'
      rw [ez] at hm ⊢
      refine ⟨S ++ [.lst (st'.map pr ++ [pr u])], ?_⟩
      have e0 : dTest (dBin fGT (dCall fLen (dCons (dVar 2) dNil)) (dC (.int 0))) (sh a b c) (S ++ [.lst ((st' ++ [u]).map pr)]) = .ok true (S ++ [.lst (st'.map pr ++ [pr u])]) := by
        simp [sh]
      have hfu := hfz u hu
      have simple : srt u < 4 → ∃ m' sl2 S2, m' < szs st' + sz u ∧ (L__law_same_v1_1 (sh a b c) (S ++ [.lst (st'.map pr ++ [pr u])]) = .nx sl2 S2 ∨ L__law_same_v1_1 (sh a b c) (S ++ [.lst (st'.map pr ++ [pr u])]) = .ct sl2 S2) ∧ ∃ st : List T, (∀ u ∈ st, Dt u = true) ∧ m' = szs st ∧ m' ≤ 1000000 ∧ S2 = S ++ [.lst (st.map pr)] ∧ ∃ a b c, sl2 = sh a b c := by
        intro h4
        refine ⟨szs st', sh (some u) (some u) c, S ++ [.lst (st'.map pr)], by omega, .inl ?_, st', hD', rfl, by omega, rfl, _, _, _, rfl⟩
        have es := eq_self_ok (S := S ++ [.lst (st'.map pr)]) hu h4
        cases u with
        | non => simp [L__law_same_v1_1, sh, pr]; try rfl
        | bl q => simp [L__law_same_v1_1, sh, pr, isaB]; try rfl
        | int q => simp [L__law_same_v1_1, sh, pr, isaB, law_whole_int]; try rfl
        | str q => simp [L__law_same_v1_1, sh, pr, isaB]; try rfl
        | tup us => simp [srt] at h4
        | _ => simp [Dt] at hu
      by_cases h4 : srt u < 4
      · obtain ⟨m', sl2, S2, q1, q2, q3⟩ := simple h4
        exact ⟨m', sl2, S2, e0, q1, q2, q3⟩
      · obtain ⟨us, rfl⟩ : ∃ us, u = .tup us := by
          cases u with
          | tup us => exact ⟨us, rfl⟩
          | non => simp [srt] at h4
          | bl _ => simp [srt] at h4
          | int _ => simp [srt] at h4
          | str _ => simp [srt] at h4
          | _ => simp [Dt] at hu
        have hus : ∀ v ∈ us, Dt v = true := Dts_all.mp (by simpa [Dt] using hu)
        have lu := len_szs us
        have esz : sz (.tup us) = 1 + szs us := by simp [sz]
        let fr := fun k : Nat => [pr (us[k]?.getD .non)]
        obtain ⟨sl', q1, x', rfl⟩ := for_app (S := S) (src := none) (all := (List.range us.length).map fun k => T.int (k : Nat)) (g := gN 5) (b := L__law_same_v1_0) (fun k : Nat => T.int k) fr (fun sl => ∃ x, sl = sh (some (.tup us)) (some (.tup us)) x) 1 2000000 (fun _ => trivial)
          (List.range us.length) (st'.map pr) (sh (some (.tup us)) (some (.tup us)) c) (fun _ _ => by simp [fr]) (fun k hk acc sl ⟨x, e⟩ hl => by
            subst e
            refine ⟨_, _, sh (some (.tup us)) (some (.tup us)) (some (T.int (k : Nat))), gN_eq _, .inl ?_, _, rfl⟩
            have hk' : k < us.length := by simpa using hk
            have : acc.length < 16777216 := by omega
            have hv := hfz us[k] (hus _ (List.getElem_mem hk'))
            simp [L__law_same_v1_0, sh, this, fr, pr, atI_n, List.getElem?_eq_getElem hk', hv]) (by simp; omega) ⟨c, rfl⟩
        refine ⟨szs st' + szs us, sh (some (.tup us)) (some (.tup us)) x', S ++ [.lst ((st' ++ us).map pr)], e0, by rw [esz]; omega, .inl ?_, st' ++ us, fun v hv => (List.mem_append.mp hv).elim (hD' v) (hus v), by simp [szs_sum], by rw [esz] at hm; omega, rfl, _, _, _, rfl⟩
        have e1 : (List.range us.length).flatMap fr = us.map pr := by
          rw [← List.map_eq_flatMap (f := fun k : Nat => pr (us[k]?.getD .non))]
          apply List.ext_getElem?
          intro k
          by_cases hk : k < us.length
          · rw [List.getElem?_map, List.getElem?_range hk, List.getElem?_map, List.getElem?_eq_getElem hk]
            simp [List.getElem?_eq_getElem hk]
          · rw [List.getElem?_eq_none (by simp; omega), List.getElem?_eq_none (by simp; omega)]
        rw [e1, ← List.map_append] at q1
        have hr : dRng1 (dCons (dCall fLen (dCons (dVar 4) dNil)) dNil) (sh (some (.tup us)) (some (.tup us)) c) (S ++ [.lst (st'.map pr)]) = .ok none ((List.range us.length).map fun k => T.int (k : Nat)) (S ++ [.lst (st'.map pr)]) := dRng1_eq (n := us.length) (by simp [sh]) (by omega)
        have hf := dFor_eq (dRng1 (dCons (dCall fLen (dCons (dVar 4) dNil)) dNil)) (gN 5) L__law_same_v1_0 _ _ hr
        simp only [sh] at q1 hf
        simp [L__law_same_v1_1, sh, pr, isaB]
        simp only [pr] at q1 hf
        rw [hf, q1]
        simp)
  obtain ⟨sl', S', q1, rfl⟩ := hstep FUEL (sz t) (sh none none none) (S ++ [.lst [pr t]]) ⟨[t], by simpa using h, by simp [szs], hs, rfl, _, _, _, rfl⟩ (by unfold FUEL; omega)
  simp only [sh, pr] at q1
  rw [dWhile_eq, q1]
  simp
  rw [gcT_app (by simp)]
theorem gcT_keep {S : Sto} {ts : List T} (h : T.lts 0 ts = false) : Dn.gcT [] (.nlst ts) S = .ok (.nlst ts) S := by
  unfold Dn.gcT
  rw [if_pos ⟨Nat.zero_le _, fun i hi => by simp at hi⟩, if_neg (by simp [h])]
theorem chest_ok {ns : List Int} (hl : ns.length ≤ 63) : ∃ (m : Int) (ds : List Int), ds.length ≤ 1000 ∧ F__law_chest_v1 [.flst (ns.map T.int)] [] = .ok (.nlst [.ref 0, .int m]) [.lst (ds.map T.int)] := by
  let sh := fun (m : Int) (x y : Option T) => [some (T.flst (ns.map T.int)), some (T.int m), some (T.ref 0), x, y]
  have hcut : cutT (ns.map T.int) none (some (60 : Int)) = (ns.take 60).map T.int := by
    rw [show (60 : Int) = ((60 : Nat) : Int) from rfl, cutT_to, List.map_take]
  obtain ⟨sl', S', q1, m, ds, x', y', rfl, rfl, hds⟩ := forL_inv (src := none) (all := (ns.take 60).map T.int) (g := gN 3) (b := L__law_chest_v1_0) T.int
    (fun xs sl S => ∃ (m : Int) (ds : List Int) (x y : Option T), sl = sh m x y ∧ S = [.lst (ds.map T.int)] ∧ ds.length + xs.length ≤ 100) (fun _ _ _ _ => trivial) (by
      rintro i xs sl S ⟨m, ds, x, y, rfl, rfl, hlen⟩
      rw [List.length_cons] at hlen
      have p1 : CPow 10 18 := by simp [CPow]
      have p2 : CPow 10 60 := by simp [CPow]
      have p3 : CPowW 1000000000000000000000000000000000000000000000000000000000000 9 := ⟨by decide, by decide, by decide +kernel⟩
      have g0 : ([MO.lst (ds.map T.int)] : Sto)[0]? = some (.lst (ds.map T.int)) := rfl
      have m1 : CMulA m 40014 := .inl (.inr (by omega))
      have m2 : CMulA 2 i := .inl (.inl (by omega))
      have hz : ds.length < 16777216 := by omega
      have big : (0 : Int) < (10 ^ 60) ^ 9 := by decide +kernel
      simp only [Int.reducePow] at big
      obtain ⟨a, ha⟩ : ∃ a, (if 0 ≤ i then 2 * i else 1 - 2 * i) = a := ⟨_, rfl⟩
      have hd4 : (dIfE (dTest (dBin fGE (dVar 3) (dC (.int 0)))) (dBin fMul (dC (.int 2)) (dCall fInt1 (dCons (dVar 3) dNil))) (dBin (fInt (fun _ _ => True) (· - ·)) (dC (.int 1)) (dBin fMul (dC (.int 2)) (dCall fInt1 (dCons (dVar 3) dNil))))) [some (T.flst (ns.map T.int)), some (T.int m), some (T.ref 0), some (.int i), y] [.lst (ds.map T.int)] = .ok (.int a) [.lst (ds.map T.int)] := by
        rw [← ha]
        by_cases h0 : 0 ≤ i
        · simp [h0, m2]
        · simp [h0, m2]
      by_cases hb : (1000000000000000000 : Int) ≤ a
      · refine ⟨_, _, sh ((m * 40014 + a % 2147483423 + 71) % 2147483423) (some (.int i)) (some (.int a)), [.lst ((ds ++ [a % (10 ^ 60) ^ 9]).map T.int)], gN_eq _, .inl ?_, _, ds ++ [a % (10 ^ 60) ^ 9], _, _, rfl, rfl, by simp; omega⟩
        unfold L__law_chest_v1_0
        rw [dSeq_eq, dSet_eq]
        simp only [sh, List.set_cons_succ, List.set_cons_zero]
        rw [hd4]
        simp [m1, p1, p2, p3, hb, mTy_ref g0, fAppend_ref g0, hz, big]
      · refine ⟨_, _, sh ((m * 40014 + a % 2147483423 + 71) % 2147483423) (some (.int i)) (some (.int a)), [.lst (ds.map T.int)], gN_eq _, .inl ?_, _, ds, _, _, rfl, rfl, by omega⟩
        unfold L__law_chest_v1_0
        rw [dSeq_eq, dSet_eq]
        simp only [sh, List.set_cons_succ, List.set_cons_zero]
        rw [hd4]
        simp [m1, p1, hb])
    (ns.take 60) (sh 11113 none none) [.lst []] ⟨11113, [], none, none, rfl, rfl, by simp; omega⟩
  refine ⟨m, ds, by simp at hds; omega, ?_⟩
  have hsl : ∀ S, fSl (.flst (ns.map T.int)) none (some 60) S = .ok (.nlst ((ns.take 60).map T.int)) S := fun S => by
    rw [← hcut]; rfl
  simp only [sh] at q1
  simp only [F__law_chest_v1, dFun_eq (np := 1) (n := 5) (ts := [.flst (ns.map T.int)]) rfl, b__law_chest_v1]
  simp
  rw [dFor_eq _ _ _ _ _ (dIt_eq (t := .nlst ((ns.take 60).map T.int)) (src := none) (ts := (ns.take 60).map T.int) (by simp only [dSl_eq, dVar_eq, List.getElem?_cons_zero, varR_some, RE.bind_ok, dNoPart_eq, dPart_eq, dC_eq, RE.part_int, RO.bindE_ok, fz_flst, hsl]; rfl) rfl), q1]
  simp
  rw [gcT_keep (by simp [T.lt])]
end Bd

/-! the boards that the law draws (out of the chest) -/
namespace Bd
open PySem PySem.Spec L2 Dn Pk
def KS : List Str := ["", "d", "ds", "dsu", "du", "s", "su", "u"]
/-- a board of kinds -/
structure KB (b : Brd) (r c : Nat) : Prop where
  wb : WB b
  len : b.length = r
  wid : wd b = c
  ks : ∀ q ∈ b, ∀ k ∈ q, k ∈ KS
/-- some cell is no wall -/
def Some1 (b : Brd) : Prop := ∃ q ∈ b, ∃ k ∈ q, k ≠ ""
theorem kinds_ix {k : Nat} (h : k < 7) (S : Sto) : ∃ z, z ∈ KS ∧ z ≠ "" ∧ fIx (.tup (KS.map T.str)) (.int (1 + (k : Int))) S = .ok (.str z) S := by
  have e : (1 + (k : Int)) = ((1 + k : Nat) : Int) := by omega
  have hl : 1 + k < KS.length := by show 1 + k < 8; omega
  have hne : ∀ i : Nat, i < 7 → KS[1 + i]? ≠ some ("" : Str) := by decide
  refine ⟨KS[1 + k], List.getElem_mem _, fun z => hne k h (by rw [List.getElem?_eq_getElem hl, z]), ?_⟩
  rw [e, fIx_tup, atI_n, List.getElem?_map, List.getElem?_eq_getElem hl]
  rfl
theorem KS_len : ∀ k ∈ KS, k.length ≤ 3 := by decide
abbrev rwO (r : List Str) : MO := .lst (r.map T.str)
abbrev tlO (n k : Nat) : MO := .lst ((List.range k).map fun i => T.ref (n + 1 + i))
section
variable {S : Sto} {n : Nat} {rs : List (List Str)} {o o' : MO} (hS : S.length = n)
include hS
theorem bx_get {ks : List Str} : (S ++ (o :: (rs.map rwO ++ [rwO ks])))[n + 1 + rs.length]? = some (rwO ks) := by
  subst hS
  rw [List.getElem?_append_right (by omega), show S.length + 1 + rs.length - S.length = rs.length + 1 by omega, List.getElem?_cons_succ, List.getElem?_append_right (by simp)]
  simp
theorem bx_set {ks ks' : List Str} : List.set (S ++ (o :: (rs.map rwO ++ [rwO ks]))) (n + 1 + rs.length) (rwO ks') = S ++ (o :: (rs.map rwO ++ [rwO ks'])) := by
  subst hS
  apply List.ext_getElem?
  intro i
  rw [List.getElem?_set]
  split
  · rename_i e
    subst e
    rw [if_pos (by simp; omega), List.getElem?_append_right (by omega), show S.length + 1 + rs.length - S.length = rs.length + 1 by omega, List.getElem?_cons_succ, List.getElem?_append_right (by simp)]
    simp
  · rename_i e
    by_cases h1 : i < S.length
    · rw [List.getElem?_append_left h1, List.getElem?_append_left h1]
    · rw [List.getElem?_append_right (by omega), List.getElem?_append_right (by omega)]
      cases hj : i - S.length with
      | zero => rfl
      | succ j =>
        rw [List.getElem?_cons_succ, List.getElem?_cons_succ]
        by_cases h2 : j < rs.length
        · rw [List.getElem?_append_left (by simpa using h2), List.getElem?_append_left (by simpa using h2)]
        · rw [List.getElem?_append_right (by simp; omega), List.getElem?_append_right (by simp; omega)]
          simp only [List.length_map]
          cases hm : j - rs.length with
          | zero => omega
          | succ m => rfl
theorem bx_tl {X : Sto} : (S ++ (o :: X))[n]? = some o := by
  subst hS
  simp
theorem bx_tls {X : Sto} : List.set (S ++ (o :: X)) n o' = S ++ (o' :: X) := by
  subst hS
  simp
end
abbrev shB (r c : Nat) (h : Nat) (most : Str) (wl : Int) (n : Nat) (a b x y : Option T) : Sl := [some (.ref 1), some (.int r), some (.int c), some (.tup (KS.map T.str)), some (.int h), some (.str most), some (.int wl), some (.ref n), a, b, x, y]
theorem lts_strs (n : Nat) (l : List Str) : T.lts n (l.map T.str) = true := ltsM fun _ _ => rfl
section
variable {r c h n : Nat} {most : Str} {wl : Int} {a b x y : Option T} {S X : Sto}
theorem cell_ok (hm : most ∈ KS) (hw : Cw S) {k : Nat} {rs : List (List Str)} {ks : List Str} (hS : S.length = n) (hk : ks.length ≤ 1000) : ∃ z y' S1, z ∈ KS ∧ Ch S S1 ∧
    L__law_board_v6_0 (shB r c h most wl n a (some (.ref (n + 1 + rs.length))) x y) (S ++ (tlO n k :: (rs.map rwO ++ [rwO ks]))) = .nx (shB r c h most wl n a (some (.ref (n + 1 + rs.length))) x y') (S1 ++ (tlO n k :: (rs.map rwO ++ [rwO (ks ++ [z])]))) := by
  generalize hX : (tlO n k :: (rs.map rwO ++ [rwO ks])) = X
  -- the first kind
  obtain ⟨i1, S1, e1, l1, w1⟩ := pull_nat hw X 7 (by omega) (by omega)
  obtain ⟨z1, m1, _, q1⟩ := kinds_ix l1 (S1 ++ X)
  replace e1 : F__law_pull_v1 [.ref 1, .int 7] (S ++ X) = .ok (.int i1) (S1 ++ X) := e1
  -- habit 1
  obtain ⟨z2, S2, m2, w2, s2⟩ : ∃ z2 S2, z2 ∈ KS ∧ Ch S S2 ∧ (dIf (dAnd (dTest (dBin (fEq false) (dVar 4) (dC (.int 1)))) (dTest (dBin fGT (dOwn 2 F__law_pull_v1 (dCons (dVar 0) (dCons (dC (.int 4)) dNil))) (dC (.int 0))))) (dSet 11 (dVar 5)) dNext) (shB r c h most wl n a (some (.ref (n + 1 + rs.length))) x (some (.str z1))) (S1 ++ X) = .nx (shB r c h most wl n a (some (.ref (n + 1 + rs.length))) x (some (.str z2))) (S2 ++ X) := by
    by_cases h1 : (h : Int) = 1
    · obtain ⟨i2, S2, e2, l2, w2⟩ := pull_nat w1.w X 4 (by omega) (by omega)
      replace e2 : F__law_pull_v1 [.ref 1, .int 4] (S1 ++ X) = .ok (.int i2) (S2 ++ X) := e2
      by_cases h2 : 0 < i2
      · exact ⟨most, S2, hm, w1.trans w2, by simp [h1, e2, h2]⟩
      · exact ⟨z1, S2, m1, w1.trans w2, by simp [h1, e2, h2]⟩
    · exact ⟨z1, S1, m1, w1, by simp [h1]⟩
  -- habit 2
  obtain ⟨z3, S3, m3, w3, s3⟩ : ∃ z3 S3, z3 ∈ KS ∧ Ch S S3 ∧ (dIf (dTest (dBin (fEq false) (dVar 4) (dC (.int 2)))) (dSet 11 (dOwn 2 F__law_from_v1 (dCons (dVar 0) (dCons (dTup (dCons (dC (.str "d")) (dCons (dC (.str "u")) (dCons (dC (.str "du")) dNil)))) dNil)))) dNext) (shB r c h most wl n a (some (.ref (n + 1 + rs.length))) x (some (.str z2))) (S2 ++ X) = .nx (shB r c h most wl n a (some (.ref (n + 1 + rs.length))) x (some (.str z3))) (S3 ++ X) := by
    by_cases h1 : (h : Int) = 2
    · obtain ⟨i3, t3, S3, e3, l3, w3⟩ := from_tup w2.w X [.str "d", .str "u", .str "du"] (by simp) (by simp) (by simp)
      have : ∃ z3 ∈ KS, t3 = .str z3 := by
        match i3, l3 with
        | 0, h => exact ⟨"d", by decide, by simpa using h.symm⟩
        | 1, h => exact ⟨"u", by decide, by simpa using h.symm⟩
        | 2, h => exact ⟨"du", by decide, by simpa using h.symm⟩
      obtain ⟨z3, m3, rfl⟩ := this
      exact ⟨z3, S3, m3, w2.trans w3, by simp [h1, e3]⟩
    · exact ⟨z2, S2, m2, w2, by simp [h1]⟩
  -- habit 3
  obtain ⟨z4, m4, s4⟩ : ∃ z4, z4 ∈ KS ∧ (dIf (dTest (dBin (fEq false) (dVar 4) (dC (.int 3)))) (dSet 11 (dC (.str "dsu"))) dNext) (shB r c h most wl n a (some (.ref (n + 1 + rs.length))) x (some (.str z3))) (S3 ++ X) = .nx (shB r c h most wl n a (some (.ref (n + 1 + rs.length))) x (some (.str z4))) (S3 ++ X) := by
    by_cases h1 : (h : Int) = 3
    · exact ⟨"dsu", by decide, by simp [h1]⟩
    · exact ⟨z3, m3, by simp [h1]⟩
  -- a wall
  obtain ⟨i5, S5, e5, l5, w5⟩ := pull_nat w3.w X 9 (by omega) (by omega)
  replace e5 : F__law_pull_v1 [.ref 1, .int 9] (S3 ++ X) = .ok (.int i5) (S5 ++ X) := e5
  have w35 := w3.trans w5
  have g3 : (S3 ++ X)[n + 1 + rs.length]? = some (rwO ks) := by rw [← hX]; exact bx_get (w3.len.trans hS)
  have g5 : (S5 ++ X)[n + 1 + rs.length]? = some (rwO ks) := by rw [← hX]; exact bx_get (w35.len.trans hS)
  have p5 : ∀ z, List.set (S5 ++ X) (n + 1 + rs.length) (MO.lst (ks.map T.str ++ [T.str z])) = S5 ++ (tlO n k :: (rs.map rwO ++ [rwO (ks ++ [z])])) := fun z => by
    rw [← hX, show MO.lst (ks.map T.str ++ [T.str z]) = rwO (ks ++ [z]) by simp]
    exact bx_set (w35.len.trans hS)
  have hz : ks.length < 16777216 := by omega
  refine ⟨if (i5 : Int) < wl then "" else z4, some (.str z4), S5, by split; decide; exact m4, w35, ?_⟩
  unfold L__law_board_v6_0
  have s1 : (dSet 11 (dBin fIx (dVar 3) (dBin fAdd (dC (.int 1)) (dOwn 2 F__law_pull_v1 (dCons (dVar 0) (dCons (dC (.int 7)) dNil)))))) (shB r c h most wl n a (some (.ref (n + 1 + rs.length))) x y) (S ++ X) = .nx (shB r c h most wl n a (some (.ref (n + 1 + rs.length))) x (some (.str z1))) (S1 ++ X) := by
    simp only [dSet_eq, dBin_eq, dVar_eq, List.getElem?_cons_zero, List.getElem?_cons_succ, varR_some, RE.bind_ok, dC_eq, dOwn_eq, dCons_eq, dNil_eq, RE.consA_ok, RA.cons_ok, RA.bind_ok, fz_ref, fz_int, fz_tup]
    simp [e1, q1]
  rw [dSeq_eq, s1, RS.seq_nx, dSeq_eq, s2, RS.seq_nx, dSeq_eq, s3, RS.seq_nx, dSeq_eq, s4, RS.seq_nx]
  by_cases hwl : (i5 : Int) < wl
  · simp [e5, hwl, mTy_ref g3, fAppend_ref g5, hz, p5]
  · simp [e5, hwl, mTy_ref g3, fAppend_ref g5, hz, p5]
end
theorem ax_get {S : Sto} {n i : Nat} {rs : List (List Str)} {o : MO} (hS : S.length = n) (hi : i < rs.length) : (S ++ (o :: rs.map rwO))[n + 1 + i]? = some (rwO rs[i]) := by
  subst hS
  rw [List.getElem?_append_right (by omega), show S.length + 1 + i - S.length = i + 1 by omega, List.getElem?_cons_succ, List.getElem?_map, List.getElem?_eq_getElem hi]
  rfl
theorem ax_set {S : Sto} {n i : Nat} {rs : List (List Str)} {o : MO} {q : List Str} (hS : S.length = n) : List.set (S ++ (o :: rs.map rwO)) (n + 1 + i) (rwO q) = S ++ (o :: (rs.set i q).map rwO) := by
  subst hS
  apply List.ext_getElem?
  intro j
  by_cases h1 : j < S.length
  · rw [List.getElem?_set_ne (by omega), List.getElem?_append_left h1, List.getElem?_append_left h1]
  · obtain ⟨k, rfl⟩ : ∃ k, j = S.length + k := ⟨j - S.length, by omega⟩
    rw [List.getElem?_append_right (by omega), show S.length + k - S.length = k by omega]
    cases k with
    | zero => rw [List.getElem?_set_ne (by omega), List.getElem?_append_right (by omega)]; simp
    | succ k =>
      rw [List.getElem?_cons_succ, List.getElem?_map, List.getElem?_set]
      by_cases e : i = k
      · subst e
        rw [if_pos (by omega)]
        by_cases hl : i < rs.length
        · rw [if_pos (by simp; omega), List.getElem?_set_self hl]
          rfl
        · rw [if_neg (by simp; omega), List.getElem?_eq_none (by simp; omega)]
          rfl
      · rw [if_neg (by omega), List.getElem?_set_ne e, List.getElem?_append_right (by omega), show S.length + (k + 1) - S.length = k + 1 by omega, List.getElem?_cons_succ, List.getElem?_map]
abbrev Ax (n : Nat) (rs : List (List Str)) : Sto := tlO n rs.length :: rs.map rwO
section
variable {r c h n : Nat} {most : Str} {wl : Int} {a b x y : Option T} {S : Sto}
theorem row_ok (hm : most ∈ KS) (hw : Cw S) {rs : List (List Str)} (hS : S.length = n) (hc : c ≤ 100) (hrs : rs.length ≤ 1000) : ∃ ks x' y' S1, ks.length = c ∧ (∀ z ∈ ks, z ∈ KS) ∧ Ch S S1 ∧
    L__law_board_v6_1 (shB r c h most wl n a b x y) (S ++ Ax n rs) = .nx (shB r c h most wl n a (some (.ref (n + 1 + rs.length))) x' y') (S1 ++ Ax n (rs ++ [ks])) := by
  obtain ⟨sl', S', q1, ks, S1, x', y', rfl, w1, rfl, hks, hl⟩ := forL_inv (src := none) (all := (List.range c).map fun k => T.int (k : Nat)) (g := gN 10) (b := L__law_board_v6_0) (fun k : Nat => T.int k)
    (fun xs sl St => ∃ (ks : List Str) (S1 : Sto) (x y : Option T), St = S1 ++ (tlO n rs.length :: (rs.map rwO ++ [rwO ks])) ∧ Ch S S1 ∧ sl = shB r c h most wl n a (some (.ref (n + 1 + rs.length))) x y ∧ (∀ z ∈ ks, z ∈ KS) ∧ ks.length + xs.length = c) (fun _ _ _ _ => trivial) (by
      rintro k xs sl St ⟨ks, S1, x, y, rfl, w1, rfl, hks, hl⟩
      rw [List.length_cons] at hl
      obtain ⟨z, y', S2, mz, w2, e⟩ := cell_ok (r := r) (c := c) (h := h) (wl := wl) (a := a) (x := some (.int k)) (y := y) hm w1.w (k := rs.length) (rs := rs) (ks := ks) (w1.len.trans hS) (by omega)
      refine ⟨_, _, _, _, gN_eq _, .inl e, ks ++ [z], S2, _, _, rfl, w1.trans w2, rfl, fun u hu => ?_, by simp; omega⟩
      rcases List.mem_append.mp hu with q | q
      · exact hks u q
      · rw [List.mem_singleton.mp q]; exact mz)
    (List.range c) (shB r c h most wl n a (some (.ref (n + 1 + rs.length))) x y) (S ++ (tlO n rs.length :: (rs.map rwO ++ [rwO []]))) ⟨[], S, x, y, rfl, .refl hw, rfl, by simp, by simp⟩
  refine ⟨ks, x', y', S1, by simpa using hl, hks, w1, ?_⟩
  have len0 : (S ++ Ax n rs).length = n + 1 + rs.length := by simp [hS]; omega
  have hr : dRng1 (dCons (dVar 2) dNil) (shB r c h most wl n a (some (.ref (n + 1 + rs.length))) x y) (S ++ (tlO n rs.length :: (rs.map rwO ++ [rwO []]))) = .ok none ((List.range c).map fun k => T.int (k : Nat)) (S ++ (tlO n rs.length :: (rs.map rwO ++ [rwO []]))) := dRng1_eq (n := c) (by simp) (by omega)
  have hf := dFor_eq (dRng1 (dCons (dVar 2) dNil)) (gN 10) L__law_board_v6_0 _ _ hr
  have s1 : (dSetM 9 (dLst dNil)) (shB r c h most wl n a b x y) (S ++ Ax n rs) = .nx (shB r c h most wl n a (some (.ref (n + 1 + rs.length))) x y) (S ++ (tlO n rs.length :: (rs.map rwO ++ [rwO []]))) := by
    simp [len0]
  have g : (S1 ++ (tlO n rs.length :: (rs.map rwO ++ [rwO ks])))[n]? = some (tlO n rs.length) := bx_tl (w1.len.trans hS)
  have p : List.set (S1 ++ (tlO n rs.length :: (rs.map rwO ++ [rwO ks]))) n (tlO n (rs.length + 1)) = S1 ++ Ax n (rs ++ [ks]) := by
    rw [bx_tls (w1.len.trans hS)]
    simp
  have p2 : MO.lst (((List.range rs.length).map fun i => T.ref (n + 1 + i)) ++ [T.ref (n + 1 + rs.length)]) = tlO n (rs.length + 1) := by
    simp [List.range_succ]
  unfold L__law_board_v6_1
  rw [dSeq_eq, s1, RS.seq_nx, dSeq_eq, hf, q1, RS.seq_nx]
  have hz : rs.length < 16777216 := by omega
  have q : fAppend (.ref n) [.ref (n + 1 + rs.length)] (S1 ++ (tlO n rs.length :: (rs.map rwO ++ [rwO ks]))) = .ok .non (S1 ++ Ax n (rs ++ [ks])) := by
    rw [fAppend_ref g, if_pos (by simpa using hz), p2, p]
  have qt : mTy (S1 ++ (tlO n rs.length :: (rs.map rwO ++ [rwO ks]))) (.ref n) = some "list" := mTy_ref g
  simp only [dExpr_eq, dMeth_eq, dVar_eq, List.getElem?_cons_zero, List.getElem?_cons_succ, varR_some, RE.bind_ok, fz_ref, dCons_eq, dNil_eq, RE.consA_ok, RA.cons_ok]
  simp [q, qt]
theorem fin_ok {rs : List (List Str)} (hS : S.length = n) (hl : rs.length ≤ 1000) : (dRet (dCall fTuple (dCons C__law_board_v6_2 dNil))) (shB r c h most wl n a b x y) (S ++ Ax n rs) = .rt (eB rs) (S ++ Ax n rs) := by
  have g : (S ++ Ax n rs)[n]? = some (tlO n rs.length) := bx_tl hS
  have hc : C__law_board_v6_2 (shB r c h most wl n a b x y) (S ++ Ax n rs) = .ok (.nlst (rs.map eR)) (S ++ Ax n rs) := by
    unfold C__law_board_v6_2
    rw [dLc_eq _ _ _ _ _ _ _ (dIt_eq (S1 := S ++ Ax n rs) (t := .ref n) (src := some n) (ts := (List.range rs.length).map fun i => T.ref (n + 1 + i)) (by simp) (by unfold itOf; simp only [fz_ref, g]))]
    rw [lcL_map (show Still (some n) ((List.range rs.length).map fun i => T.ref (n + 1 + i)) (S ++ Ax n rs) from g) (fun i : Nat => T.ref (n + 1 + i)) (fun _ => true) (fun i => eR (row rs i)) (List.range rs.length) [] ?_ (by simp; omega)]
    · rw [List.nil_append, List.filter_eq_self.mpr (fun _ _ => rfl)]
      congr 2
      apply List.ext_getElem?
      intro i
      by_cases hi : i < rs.length
      · rw [List.getElem?_map, List.getElem?_range hi, List.getElem?_map, List.getElem?_eq_getElem hi]
        simp [row, List.getElem?_eq_getElem hi]
      · rw [List.getElem?_eq_none (by simp; omega), List.getElem?_eq_none (by simp; omega)]
    · intro i hi
      have hi' : i < rs.length := by simpa using hi
      have g2 : (S ++ Ax n rs)[n + 1 + i]? = some (rwO rs[i]) := ax_get hS hi'
      refine ⟨shB r c h most wl n (some (.ref (n + 1 + i))) b x y, by simp [wipeT], rfl, fun _ => ⟨eR (row rs i), ?_, rfl⟩⟩
      simp only [dCall_eq, dCons_eq, dVar_eq, List.getElem?_cons_zero, List.getElem?_cons_succ, varR_some, dNil_eq, RE.consA_ok, RA.cons_ok, RA.bind_ok, fz_ref, fTuple_ref g2]
      simp [eR, row, List.getElem?_eq_getElem hi']
  simp [hc, eB]
end
theorem row_mem {b : Brd} {i : Nat} (h : i < b.length) : row b i ∈ b := by
  unfold row
  rw [List.getElem?_eq_getElem h]
  exact List.getElem_mem h
theorem kb_of {rs : List (List Str)} {r c : Nat} (h0 : 0 < r) (hc : 0 < c) (r100 : r ≤ 100) (c100 : c ≤ 100) (hl : rs.length = r) (hw : ∀ q ∈ rs, q.length = c) (hk : ∀ q ∈ rs, ∀ k ∈ q, k ∈ KS) : KB rs r c := by
  have hwd : wd rs = c := hw _ (row_mem (by omega))
  exact ⟨⟨by omega, by omega, fun q hq => by rw [hwd]; exact hw q hq, by omega, by omega⟩, hl, hwd, hk⟩
theorem board1_ok {S : Sto} (hw : Cw S) {r c : Nat} (h0 : 0 < r) (hc : 0 < c) (r100 : r ≤ 100) (c100 : c ≤ 100) : ∃ b S1, F__law_board_v6 [.ref 1, .int r, .int c] S = .ok (eB b) S1 ∧ Ch S S1 ∧ KB b r c ∧ Some1 b := by
  obtain ⟨h, S1, e1, l1, w1⟩ := pull0 hw 6 (by omega) (by omega)
  replace e1 : F__law_pull_v1 [.ref 1, .int 6] S = .ok (.int h) S1 := e1
  obtain ⟨i2, t2, S2, e2, l2, w2⟩ := from_tup w1.w [] (KS.map T.str) (by decide) (by decide) (lts_strs _ _)
  obtain ⟨most, hm, rfl⟩ : ∃ z, z ∈ KS ∧ t2 = .str z := by
    rw [List.getElem?_map] at l2
    cases e : KS[i2]? with
    | none => rw [e] at l2; cases l2
    | some z => rw [e] at l2; cases l2; exact ⟨z, List.mem_of_getElem? e, rfl⟩
  obtain ⟨i3, t3, S3, e3, l3, w3⟩ := from_tup w2.w [] [.int 0, .int 0, .int 1, .int 4] (by simp) (by simp) (by simp)
  obtain ⟨wl, rfl⟩ : ∃ wl : Int, t3 = .int wl := by
    match i3, l3 with
    | 0, h => exact ⟨0, by simpa using h.symm⟩
    | 1, h => exact ⟨0, by simpa using h.symm⟩
    | 2, h => exact ⟨1, by simpa using h.symm⟩
    | 3, h => exact ⟨4, by simpa using h.symm⟩
  rw [List.append_nil, List.append_nil] at e2 e3
  have w13 := (w1.trans w2).trans w3
  obtain ⟨n, hn⟩ : ∃ n, S3.length = n := ⟨_, rfl⟩
  obtain ⟨sl', S', q1, rs, S4, a', b', x', y', rfl, w4, rfl, hrl, hrw, hrk⟩ := forL_inv (src := none) (all := (List.range r).map fun k => T.int (k : Nat)) (g := gN 8) (b := L__law_board_v6_1) (fun k : Nat => T.int k)
    (fun xs sl St => ∃ (rs : List (List Str)) (S4 : Sto) (a b x y : Option T), St = S4 ++ Ax n rs ∧ Ch S3 S4 ∧ sl = shB r c h most wl n a b x y ∧ rs.length + xs.length = r ∧ (∀ q ∈ rs, q.length = c) ∧ (∀ q ∈ rs, ∀ k ∈ q, k ∈ KS)) (fun _ _ _ _ => trivial) (by
      rintro k xs sl St ⟨rs, S4, a, b, x, y, rfl, w4, rfl, hl, hrw, hrk⟩
      rw [List.length_cons] at hl
      obtain ⟨ks, x', y', S5, k1, k2, w5, e⟩ := row_ok (r := r) (h := h) (wl := wl) (a := some (.int k)) (b := b) (x := x) (y := y) hm w4.w (rs := rs) (w4.len.trans hn) c100 (by omega)
      refine ⟨_, _, _, _, gN_eq _, .inl e, rs ++ [ks], S5, _, _, _, _, rfl, w4.trans w5, rfl, by simp; omega, fun q hq => ?_, fun q hq => ?_⟩
      · rcases List.mem_append.mp hq with z | z
        · exact hrw q z
        · rw [List.mem_singleton.mp z]; exact k1
      · rcases List.mem_append.mp hq with z | z
        · exact hrk q z
        · rw [List.mem_singleton.mp z]; exact k2)
    (List.range r) (shB r c h most wl n none none none none) (S3 ++ Ax n []) ⟨[], S3, _, _, _, _, rfl, .refl w3.w, rfl, by simp, by simp, by simp⟩
  have hrl : rs.length = r := by simpa using hrl
  have w14 := w13.trans w4
  obtain ⟨i, S5, e5, l5, w5⟩ := pull_nat w4.w (Ax n rs) r h0 (by omega)
  obtain ⟨j, S6, e6, l6, w6⟩ := pull_nat w5.w (Ax n rs) c hc (by omega)
  have w16 := (w14.trans w5).trans w6
  have n5 : S5.length = n := (w4.trans w5).len.trans hn
  have n6 : S6.length = n := ((w4.trans w5).trans w6).len.trans hn
  have hi : i < rs.length := by omega
  have hrow : row rs i = rs[i] := by simp [row, List.getElem?_eq_getElem hi]
  have hlr : rs[i].length = c := hrw _ (List.getElem_mem hi)
  have hj : j < rs[i].length := by omega
  have f5 : fIx (.ref n) (.int i) (S5 ++ Ax n rs) = .ok (.ref (n + 1 + i)) (S5 ++ Ax n rs) := by
    rw [fIx_ref (bx_tl n5), atI_n, List.getElem?_map, List.getElem?_range hi]
    rfl
  have g6 : (S6 ++ Ax n rs)[n + 1 + i]? = some (rwO rs[i]) := ax_get n6 hi
  have f6 : fIx (.ref (n + 1 + i)) (.int j) (S6 ++ Ax n rs) = .ok (.str rs[i][j]) (S6 ++ Ax n rs) := by
    rw [fIx_ref g6, atI_n, List.getElem?_map, List.getElem?_eq_getElem hj]
    rfl
  have hr : dRng1 (dCons (dVar 1) dNil) (shB r c h most wl n none none none none) (S3 ++ Ax n []) = .ok none ((List.range r).map fun k => T.int (k : Nat)) (S3 ++ Ax n []) := dRng1_eq (n := r) (by simp) (by omega)
  have hf := dFor_eq (dRng1 (dCons (dVar 1) dNil)) (gN 8) L__law_board_v6_1 _ _ hr
  -- up to the row
  have hbody : F__law_board_v6 [.ref 1, .int r, .int c] S = gcR S (((dIf (dTest (dBin (fEq false) (dBin fIx (dVar 8) (dVar 10)) (dC (.str "")))) (dAsg (dBin fIx (dVar 3) (dBin fAdd (dC (.int 1)) (dOwn 2 F__law_pull_v1 (dCons (dVar 0) (dCons (dC (.int 7)) dNil))))) (gSubD (dVar 8) (dVar 10))) dNext)
      (shB r c h most wl n (some (.ref (n + 1 + i))) b' (some (.int j)) y') (S6 ++ Ax n rs)).seq (dRet (dCall fTuple (dCons C__law_board_v6_2 dNil)))) := by
    have e2' : F__law_from_v1 [.ref 1, .tup [.str "", .str "d", .str "ds", .str "dsu", .str "du", .str "s", .str "su", .str "u"]] S1 = .ok (.str most) S2 := e2
    have ax0 : S3 ++ [MO.lst []] = S3 ++ Ax n [] := by simp [Ax]
    simp only [F__law_board_v6, dFun_eq (np := 3) (n := 12) (ts := [.ref 1, T.int r, T.int c]) rfl, b__law_board_v6]
    have hf' := hf
    have q1' := q1
    simp only [shB, KS, List.map_cons, List.map_nil] at hf' q1'
    simp [e1, e2', e3, ax0, hn]
    rw [hf', q1']
    simp [e5, f5, e6]
    rfl
  rw [hbody]
  by_cases hz : rs[i][j] = ""
  · obtain ⟨m, S7, e7, l7, w7⟩ := pull_nat w6.w (Ax n rs) 7 (by omega) (by omega)
    replace e7 : F__law_pull_v1 [.ref 1, .int 7] (S6 ++ Ax n rs) = .ok (.int m) (S7 ++ Ax n rs) := e7
    obtain ⟨z, z1, z2, z3⟩ := kinds_ix l7 (S7 ++ Ax n rs)
    have w17 := w16.trans w7
    have n7 : S7.length = n := w7.len.trans n6
    have g7 : (S7 ++ Ax n rs)[n + 1 + i]? = some (rwO rs[i]) := ax_get n7 hi
    have p7 : dput (S7 ++ Ax n rs) (.ref (n + 1 + i)) (.int j) (.str z) = some (S7 ++ Ax n (rs.set i (rs[i].set j z))) := by
      rw [dput_ref g7 (ixN_nat (by simpa using hj)), show MO.lst ((rs[i].map T.str).set j (.str z)) = rwO (rs[i].set j z) by rw [← List.map_set], ax_set n7]
      simp [Ax]
    have hs : (dIf (dTest (dBin (fEq false) (dBin fIx (dVar 8) (dVar 10)) (dC (.str "")))) (dAsg (dBin fIx (dVar 3) (dBin fAdd (dC (.int 1)) (dOwn 2 F__law_pull_v1 (dCons (dVar 0) (dCons (dC (.int 7)) dNil))))) (gSubD (dVar 8) (dVar 10))) dNext)
      (shB r c h most wl n (some (.ref (n + 1 + i))) b' (some (.int j)) y') (S6 ++ Ax n rs) = .nx (shB r c h most wl n (some (.ref (n + 1 + i))) b' (some (.int j)) y') (S7 ++ Ax n (rs.set i (rs[i].set j z))) := by
      simp only [dIf_eq, dTest_eq, dAsg_eq, dBin_eq, dVar_eq, List.getElem?_cons_zero, List.getElem?_cons_succ, varR_some, RE.bind_ok, dC_eq, dOwn_eq, dCons_eq, dNil_eq, RE.consA_ok, RA.cons_ok, RA.bind_ok, fz_ref, fz_int, fz_tup, fz_str, f6, hz]
      simp [e7, z3, p7]
    rw [hs, RS.seq_nx, fin_ok n7 (by simp; omega), gcR_rt, w17.gcA _ (by simp)]
    have hmem : ∀ q ∈ rs.set i (rs[i].set j z), q = rs[i].set j z ∨ q ∈ rs := fun q hq => (List.mem_or_eq_of_mem_set hq).symm
    refine ⟨rs.set i (rs[i].set j z), S7, rfl, w17, kb_of h0 hc r100 c100 (by simp [hrl]) (fun q hq => ?_) (fun q hq k hk => ?_), rs[i].set j z, ?_, z, ?_, z2⟩
    · rcases hmem q hq with e | e
      · rw [e, List.length_set, hlr]
      · exact hrw q e
    · rcases hmem q hq with e | e
      · rw [e] at hk
        rcases List.mem_or_eq_of_mem_set hk with k1 | k1
        · exact hrk _ (List.getElem_mem hi) k k1
        · rw [k1]; exact z1
      · exact hrk q e k hk
    · exact List.mem_set hi _
    · exact List.mem_set hj _
  · have hs : (dIf (dTest (dBin (fEq false) (dBin fIx (dVar 8) (dVar 10)) (dC (.str "")))) (dAsg (dBin fIx (dVar 3) (dBin fAdd (dC (.int 1)) (dOwn 2 F__law_pull_v1 (dCons (dVar 0) (dCons (dC (.int 7)) dNil))))) (gSubD (dVar 8) (dVar 10))) dNext)
      (shB r c h most wl n (some (.ref (n + 1 + i))) b' (some (.int j)) y') (S6 ++ Ax n rs) = .nx (shB r c h most wl n (some (.ref (n + 1 + i))) b' (some (.int j)) y') (S6 ++ Ax n rs) := by
      simp [f6, hz]
    rw [hs, RS.seq_nx, fin_ok n6 (by omega), gcR_rt, w16.gcA _ (by simp)]
    exact ⟨rs, S6, rfl, w16, kb_of h0 hc r100 c100 hrl hrw hrk, rs[i], List.getElem_mem hi, rs[i][j], List.getElem_mem hj, hz⟩
end Bd

/-! loops that look at all, texts sign by sign -/
namespace Bd
open PySem PySem.Spec L2 Dn Pk
/-- a loop that looks at each, and returns at the first that is not so -/
theorem for_all {α : Type} {src : Option Nat} {all : List T} {g : DG} {b : DS} {S : Sto} (e : α → T) (hS : Still src all S) (p : α → Bool) (P : Sl → Prop) (t0 : T) : ∀ (xs : List α),
    (∀ x ∈ xs, ∀ sl, P sl → ∃ sl1, g (e x) sl S = some (sl1, S) ∧ ((p x = true ∧ ∃ sl2, (b sl1 S = .nx sl2 S ∨ b sl1 S = .ct sl2 S) ∧ P sl2) ∨ (p x = false ∧ b sl1 S = .rt t0 S))) → ∀ (sl : Sl), P sl →
    (xs.all p = true ∧ ∃ sl', forL src all g b (xs.map e) sl S = .nx sl' S ∧ P sl') ∨ (xs.all p = false ∧ forL src all g b (xs.map e) sl S = .rt t0 S)
  | [], _, sl, hP => .inl ⟨rfl, sl, by rw [List.map_nil, forL, if_pos hS], hP⟩
  | x :: xs, h, sl, hP => by
    obtain ⟨sl1, h1, h2⟩ := h x List.mem_cons_self sl hP
    rw [List.map_cons, forL, if_pos hS, h1]
    rcases h2 with ⟨h2, sl2, h3, h4⟩ | ⟨h2, h3⟩
    · rcases for_all e hS p P t0 xs (fun y hy => h y (List.mem_cons_of_mem _ hy)) sl2 h4 with ⟨q1, sl', q2, q3⟩ | ⟨q1, q2⟩
      · refine .inl ⟨by rw [List.all_cons, h2, q1]; rfl, sl', ?_, q3⟩
        rcases h3 with h3 | h3 <;> (simp only [h3]; exact q2)
      · refine .inr ⟨by rw [List.all_cons, h2, q1]; rfl, ?_⟩
        rcases h3 with h3 | h3 <;> (simp only [h3]; exact q2)
    · refine .inr ⟨by rw [List.all_cons, h2]; rfl, ?_⟩
      simp only [h3]
/-- the text of signs -/
abbrev Sx (l : List Nat) : Str := ⟨l.toArray⟩
abbrev ch (c : Nat) : T := .str ⟨#[c]⟩
def tl (z : Str) : List Nat := z.cps.toList
@[simp] theorem Sx_tl (z : Str) : Sx (tl z) = z := by
  obtain ⟨⟨l⟩⟩ := z
  rfl
@[simp] theorem tl_Sx (l : List Nat) : tl (Sx l) = l := rfl
@[simp] theorem len_Sx (l : List Nat) : (Sx l).length = l.length := by show l.toArray.size = _; simp
theorem len_tl (z : Str) : (tl z).length = z.length := by show z.cps.toList.length = z.cps.size; simp
theorem Sx_cat (a b : List Nat) : Sx a ++ Sx b = Sx (a ++ b) := SX.S_cat a b
theorem Sx_inj {a b : List Nat} : Sx a = Sx b ↔ a = b := ⟨SX.S_inj, fun h => by rw [h]⟩
theorem joinL0 : ∀ ys : List (List Nat), TL.joinL [] ys = ys.flatten
  | [] => rfl
  | [p] => by simp [TL.joinL]
  | p :: q :: r => by rw [TL.joinL, joinL0 (q :: r)]; simp
theorem join0 (ys : List Str) : Txt.join ("" : Str) ys = Sx (ys.flatMap tl) := by
  have e : ys = (ys.map tl).map Sx := by
    rw [List.map_map]
    exact (List.map_id' ys).symm.trans (List.map_congr_left fun z _ => (Sx_tl z).symm)
  have := SX.join_S [] (ys.map tl)
  rw [joinL0] at this
  conv => lhs; rw [e]
  exact this.trans (by rw [List.flatMap_def])
theorem strsT_map : ∀ ys : List Str, strsT (ys.map T.str) = some ys
  | [] => rfl
  | y :: ys => by
    rw [List.map_cons, strsT, strsT_map ys]
    first | rfl | simp
theorem fJoin0 {t : T} {S : Sto} {ys : List Str} (h : seqOf S t = some (ys.map T.str)) (hl : (ys.map (·.length)).sum ≤ 16777216) : fJoin (.str "") [t] S = .ok (.str (Sx (ys.flatMap tl))) S := by
  unfold fJoin
  simp only [h, strsT_map]
  rw [if_pos (by rw [show ("" : Str).length = 0 from rfl]; omega), join0]
theorem flat1 : ∀ cs : List Nat, (cs.map fun c => (⟨#[c]⟩ : Str)).flatMap tl = cs
  | [] => rfl
  | c :: cs => by rw [List.map_cons, List.flatMap_cons, flat1 cs]; rfl
theorem fJoin_ch {S : Sto} {cs : List Nat} (hl : cs.length ≤ 16777216) : fJoin (.str "") [.lst (cs.map ch)] S = .ok (.str (Sx cs)) S := by
  have := fJoin0 (t := .lst (cs.map ch)) (S := S) (ys := cs.map fun c => (⟨#[c]⟩ : Str)) (by rw [List.map_map]; rfl) (by
    rw [List.map_map]
    have : (cs.map ((fun x : Str => x.length) ∘ fun c => (⟨#[c]⟩ : Str))) = cs.map fun _ => 1 := rfl
    rw [this]
    simp [List.map_const', List.sum_replicate_nat, hl])
  rw [flat1] at this
  exact this
@[simp] theorem fIn_ch {n : Bool} {c : Nat} {z : Str} {S : Sto} : fIn n (ch c) (.str z) S = .ok (.bl (if n then !decide (c ∈ tl z) else decide (c ∈ tl z))) S := id rfl
@[simp] theorem itOf_str {S : Sto} {z : Str} : itOf S (.str z) = some (none, (tl z).map ch) := id rfl
theorem fIx_str {S : Sto} {z : Str} {i : Nat} (hl : z.length ≤ 16777216) (h : i < z.length) : fIx (.str z) (.int i) S = .ok (ch ((tl z)[i]?.getD 0)) S := by
  have hi : i < (tl z).length := by rw [len_tl]; exact h
  show (if z.length ≤ sizeLine then (match atI (tl z) i with | some c => RE.ok (T.str ⟨#[c]⟩) S | none => .bad) else .bad) = _
  rw [if_pos (by simpa using hl), atI_n, List.getElem?_eq_getElem hi]
  rfl
theorem Sx_ne {l : List Nat} : Sx l = ("" : Str) ↔ l = [] := by
  have : ("" : Str) = Sx [] := rfl
  rw [this, Sx_inj]
theorem ne_tl {z : Str} : z = ("" : Str) ↔ tl z = [] := by
  have := Sx_ne (l := tl z)
  rw [Sx_tl] at this
  exact this
end Bd

/-! raised errors read by simp; letters; cells; loops up to the first that is not so -/
namespace Bd
open PySem PySem.Spec L2 Dn Pk
section
variable {c : Str} {fs : Flds} {S : Sto} {t : T} {sl : Sl}
@[simp] theorem consA_exc (f : Sto → RA) : (RE.exc c fs S).consA f = .exc c fs S := id rfl
@[simp] theorem cons_exc : (RA.exc c fs S).cons t = .exc c fs S := id rfl
@[simp] theorem bindA_exc (f : List T → Sto → RE) : (RA.exc c fs S).bind f = .exc c fs S := id rfl
def hotR (o : Option (Option T)) (r : RE) : RE := match o with
  | some none => r
  | _ => .bad
@[simp] theorem hotR_none {r : RE} : hotR (some none) r = r := id rfl
@[simp] theorem dHotC_eq {i : Nat} {r : Sto → RE} : dHotC i r sl S = hotR sl[i]? (r S) := id rfl
def isxR (o : Option (Option T)) (b : Option Bool) (S : Sto) : RE := match o with
  | some none => (match b with
    | some b => .ok (.bl b) S
    | none => .bad)
  | _ => .bad
@[simp] theorem isxR_ok {b : Bool} : isxR (some none) (some b) S = .ok (.bl b) S := id rfl
@[simp] theorem dIsx_eq {i : Nat} {m : List (Str × Bool)} : dIsx i m c sl S = isxR sl[i]? (m.lookup c) S := by
  unfold dIsx isxR
  cases sl[i]? with
  | none => rfl
  | some x => cases x <;> rfl
def isxR3 (o : Option (Option T)) (b1 b2 b3 : Option Bool) (S : Sto) : RE := match o with
  | some none => (match b1, b2, b3 with
    | some b1, some b2, some b3 => .ok (.bl (b1 || (b2 || b3))) S
    | _, _, _ => .bad)
  | _ => .bad
@[simp] theorem isxR3_ok {b1 b2 b3 : Bool} : isxR3 (some none) (some b1) (some b2) (some b3) S = .ok (.bl (b1 || (b2 || b3))) S := id rfl
@[simp] theorem dIsx3_eq {i : Nat} {m1 m2 m3 : List (Str × Bool)} : dIsx3 i m1 m2 m3 c sl S = isxR3 sl[i]? (m1.lookup c) (m2.lookup c) (m3.lookup c) S := by
  unfold dIsx3 isxR3
  cases sl[i]? with
  | none => rfl
  | some x => cases x <;> rfl
end
abbrev bsx (w : Str) (S : Sto) : RE := .exc "BadStep" [("word", .str w)] S
def Od : T → Bool
  | .non => true
  | .bl _ => true
  | .int _ => true
  | .str _ => true
  | .tup _ => true
  | .lst _ => true
  | _ => false
theorem Od_fz {t : T} (h : Od t = true) : fz t = t := by cases t <;> first | rfl | simp [Od] at h

def whole : T → Bool
  | .int _ => true
  | _ => false
theorem is_whole_ok {t : T} {S : Sto} (h : Od t = true) : F_is_whole [t] S = .ok (.bl (whole t)) S := by
  cases t with
  | non => simp [F_is_whole, dFun_eq, b_is_whole, isaB, whole]; rw [gcT_same (by simp)]
  | bl b => simp [F_is_whole, dFun_eq, b_is_whole, isaB, whole]; rw [gcT_same (by simp)]
  | int b => simp [F_is_whole, dFun_eq, b_is_whole, isaB, whole]; rw [gcT_same (by simp)]
  | str b => simp [F_is_whole, dFun_eq, b_is_whole, isaB, whole]; rw [gcT_same (by simp)]
  | tup b => simp [F_is_whole, dFun_eq, b_is_whole, isaB, whole]; rw [gcT_same (by simp)]
  | lst b => simp [F_is_whole, dFun_eq, b_is_whole, isaB, whole]; rw [gcT_same (by simp)]
  | _ => simp [Od] at h
/-- a cell of the board -/
def isCell (b : Brd) : T → T → Bool
  | .int i, .int j => (decide (0 ≤ i) && decide (i < b.length)) && (decide (0 ≤ j) && decide (j < wd b))
  | _, _ => false
section
variable {b : Brd} {S : Sto} (W : WB b)
include W
theorem look_cell_ok {x y : T} (hx : Od x = true) (hy : Od y = true) : F_look_for_cell [eB b, x, y] S = if isCell b x y then .ok .non S else bsx "cell" S := by
  have fx := Od_fz hx
  have fy := Od_fz hy
  have ix := is_whole_ok (S := S) hx
  have iy := is_whole_ok (S := S) hy
  by_cases h1 : whole x = true
  · obtain ⟨i, rfl⟩ : ∃ i, x = .int i := by cases x <;> simp [whole] at h1; exact ⟨_, rfl⟩
    by_cases h2 : whole y = true
    · obtain ⟨j, rfl⟩ : ∃ j, y = .int j := by cases y <;> simp [whole] at h2; exact ⟨_, rfl⟩
      have hc := has_cell_ok (S := S) W (r := i) (c := j)
      have hI : isCell b (.int i) (.int j) = ((decide (0 ≤ i) && decide (i < b.length)) && (decide (0 ≤ j) && decide (j < wd b))) := rfl
      rw [hI]
      generalize ((decide (0 ≤ i) && decide (i < b.length)) && (decide (0 ≤ j) && decide (j < wd b))) = q at hc
      cases q with
      | true =>
        simp [F_look_for_cell, dFun_eq, b_look_for_cell, ix, iy, whole, hc]
        rw [gcT_same (by simp)]
      | false =>
        simp [F_look_for_cell, dFun_eq, b_look_for_cell, ix, iy, whole, hc]
        rw [gcX_same (by simp)]
    · have h2' : whole y = false := by simpa using h2
      have hI : isCell b (.int i) y = false := by cases y <;> first | rfl | simp [whole] at h2'
      simp [F_look_for_cell, dFun_eq, b_look_for_cell, ix, iy, h1, h2', fy, hI]
      rw [gcX_same (by simp)]
  · have h1' : whole x = false := by simpa using h1
    have hI : isCell b x y = false := by cases x <;> first | rfl | simp [whole] at h1'
    simp [F_look_for_cell, dFun_eq, b_look_for_cell, ix, h1', fx, hI]
    rw [gcX_same (by simp)]
omit W in
theorem isCell_nat {i j : Nat} (hi : i < b.length) (hj : j < wd b) : isCell b (.int i) (.int j) = true := by
  simp only [isCell, Bool.and_eq_true, decide_eq_true_eq]
  omega
end
def LT3 : List Str := ["d", "s", "u"]
/-- a text of the row -/
def isOne (row : List Str) : T → Bool
  | .str z => decide (z ∈ row)
  | _ => false
theorem one_sign {z : Str} {cs : List Nat} (h0 : z.length ≤ 16777216) {S : Sto} {t : T} (ht : t = .str (Sx cs)) (row : List Str) (hr : row = cs.map fun c => Sx [c]) :
    (((fLen [.str z] S).bind fun x S1 => fEq false x (.int 1) S1).andV fun S1 => fIn false (.str z) t S1) = .ok (.bl (decide (z ∈ row))) S := by
  subst ht hr
  have ez := Sx_tl z
  have lz := len_tl z
  generalize tl z = l at ez lz
  subst ez
  match l, lz, h0 with
  | [], lz, h0 =>
    have : Sx [] ∉ cs.map fun c => Sx [c] := by simp
    simp [this]
  | [c], lz, h0 =>
    have e : decide (Sx [c] ∈ cs.map fun c => Sx [c]) = decide (c ∈ cs) := by
      simp
    rw [e]
    simp
    try exact decide_eq_decide.mpr Iff.rfl
  | c :: d :: l, lz, h0 =>
    have : Sx (c :: d :: l) ∉ cs.map fun c => Sx [c] := by simp
    have h0 : l.length + 1 + 1 ≤ 16777216 := by simpa using h0
    simp [this, h0]
    omega

/-- a value that may be asked: texts of few signs -/
def Wv (t : T) : Prop := Od t = true ∧ ∀ z, t = .str z → z.length ≤ 1000
theorem Wv.fz {t : T} (h : Wv t) : fz t = t := Od_fz h.1
theorem is_letter_ok {t : T} {S : Sto} (h : Wv t) : F_is_letter [t] S = .ok (.bl (isOne LT3 t)) S := by
  obtain ⟨h, h2⟩ := h
  cases t with
  | str z =>
    have z1 := h2 z rfl
    have e := one_sign (z := z) (cs := [100, 115, 117]) (by omega) (S := S) (t := c_LETTERS) rfl LT3 rfl
    have e2 : isOne LT3 (.str z) = decide (z ∈ LT3) := rfl
    rw [e2]
    simp only [F_is_letter, dFun_eq (np := 1) (n := 1) (ts := [.str z]) rfl, b_is_letter]
    have hz : z.length ≤ 16777216 := by omega
    simp [isaB, hz] at e ⊢
    simp [e]
    rw [gcT_same (by simp)]
  | non => simp [F_is_letter, dFun_eq, b_is_letter, isaB, isOne]; rw [gcT_same (by simp)]
  | bl b => simp [F_is_letter, dFun_eq, b_is_letter, isaB, isOne]; rw [gcT_same (by simp)]
  | int b => simp [F_is_letter, dFun_eq, b_is_letter, isaB, isOne]; rw [gcT_same (by simp)]
  | tup b => simp [F_is_letter, dFun_eq, b_is_letter, isaB, isOne]; rw [gcT_same (by simp)]
  | lst b => simp [F_is_letter, dFun_eq, b_is_letter, isaB, isOne]; rw [gcT_same (by simp)]
  | _ => simp [Od] at h
/-- the first of n that is not so -/
def fb (n : Nat) (p : Nat → Bool) : Option Nat := (List.range n).find? fun i => !p i
theorem fb_none {n : Nat} {p : Nat → Bool} : fb n p = none ↔ ∀ i, i < n → p i = true := by
  unfold fb
  rw [List.find?_eq_none]
  constructor
  · intro h i hi
    have := h i (List.mem_range.mpr hi)
    simpa using this
  · intro h i hi
    simp [h i (List.mem_range.mp hi)]
theorem fb_some {n i : Nat} {p : Nat → Bool} (h1 : i < n) (h2 : ∀ j, j < i → p j = true) (h3 : p i = false) : fb n p = some i := by
  unfold fb
  rw [List.find?_range_eq_some]
  exact ⟨by simp [h3], List.mem_range.mpr h1, fun j hj => by simp [h2 j hj]⟩
def ended : RS → Prop
  | .rt _ _ => True
  | .exc _ _ _ _ => True
  | _ => False
theorem for_rng_aux {all : List T} (e : Nat → T) {g : DG} {b : DS} {S : Sto} {n : Nat} (p : Nat → Bool) (R : Nat → RS) (P : Nat → Sl → Prop) (hR : ∀ i, ended (R i))
    (h : ∀ i, i < n → (∀ j, j < i → p j = true) → ∀ sl, P i sl → ∃ sl1, g (e i) sl S = some (sl1, S) ∧ ((p i = true ∧ ∃ sl2, b sl1 S = .nx sl2 S ∧ P (i + 1) sl2) ∨ (p i = false ∧ b sl1 S = R i))) :
    ∀ (m k : Nat) (sl : Sl), k + m = n → (∀ j, j < k → p j = true) → P k sl →
      (fb n p = none ∧ ∃ sl', forL none all g b ((List.range' k m).map e) sl S = .nx sl' S ∧ P n sl') ∨ ∃ i, fb n p = some i ∧ i < n ∧ forL none all g b ((List.range' k m).map e) sl S = R i
  | 0, k, sl, hk, hb, hP => .inl ⟨fb_none.mpr fun i hi => hb i (by omega), sl, by rw [List.range'_zero, List.map_nil, forL, if_pos (show Still none all S from trivial)], by rw [show n = k by omega]; exact hP⟩
  | m + 1, k, sl, hk, hb, hP => by
    obtain ⟨sl1, h1, h2⟩ := h k (by omega) hb sl hP
    rw [List.range'_succ, List.map_cons, forL, if_pos (show Still none all S from trivial)]
    simp only [h1]
    rcases h2 with ⟨h2, sl2, h3, h4⟩ | ⟨h2, h3⟩
    · simp only [h3]
      exact for_rng_aux e p R P hR h m (k + 1) sl2 (by omega) (fun j hj => by
        by_cases ej : j = k
        · rw [ej]; exact h2
        · exact hb j (by omega)) h4
    · refine .inr ⟨k, fb_some (by omega) hb h2, by omega, ?_⟩
      rw [h3]
      have := hR k
      cases hq : R k with
      | rt t S' => rfl
      | exc c fs sl S' => rfl
      | nx _ _ => rw [hq] at this; exact this.elim
      | ct _ _ => rw [hq] at this; exact this.elim
      | bk _ _ => rw [hq] at this; exact this.elim
      | bad => rfl
theorem for_rngE {all : List T} (e : Nat → T) {g : DG} {b : DS} {S : Sto} {n : Nat} (p : Nat → Bool) (R : Nat → RS) (P : Nat → Sl → Prop) (hR : ∀ i, ended (R i))
    (h : ∀ i, i < n → (∀ j, j < i → p j = true) → ∀ sl, P i sl → ∃ sl1, g (e i) sl S = some (sl1, S) ∧ ((p i = true ∧ ∃ sl2, b sl1 S = .nx sl2 S ∧ P (i + 1) sl2) ∨ (p i = false ∧ b sl1 S = R i)))
    (sl : Sl) (hP : P 0 sl) : (fb n p = none ∧ ∃ sl', forL none all g b ((List.range n).map e) sl S = .nx sl' S ∧ P n sl') ∨ ∃ i, fb n p = some i ∧ i < n ∧ forL none all g b ((List.range n).map e) sl S = R i := by
  rw [List.range_eq_range']
  exact for_rng_aux e p R P hR h n 0 sl (by omega) (fun j hj => absurd hj (by omega)) hP
theorem for_rng {all : List T} {g : DG} {b : DS} {S : Sto} {n : Nat} (p : Nat → Bool) (R : Nat → RS) (P : Nat → Sl → Prop) (hR : ∀ i, ended (R i))
    (h : ∀ i, i < n → (∀ j, j < i → p j = true) → ∀ sl, P i sl → ∃ sl1, g (.int (i : Nat)) sl S = some (sl1, S) ∧ ((p i = true ∧ ∃ sl2, b sl1 S = .nx sl2 S ∧ P (i + 1) sl2) ∨ (p i = false ∧ b sl1 S = R i)))
    (sl : Sl) (hP : P 0 sl) : (fb n p = none ∧ ∃ sl', forL none all g b ((List.range n).map fun k => T.int (k : Nat)) sl S = .nx sl' S ∧ P n sl') ∨ ∃ i, fb n p = some i ∧ i < n ∧ forL none all g b ((List.range n).map fun k => T.int (k : Nat)) sl S = R i :=
  for_rngE (fun k : Nat => T.int k) p R P hR h sl hP
@[simp] theorem fInt1_bl0 {S : Sto} : fInt1 [.bl false] S = .ok (.int 0) S := id rfl
@[simp] theorem fInt1_bl1 {S : Sto} : fInt1 [.bl true] S = .ok (.int 1) S := id rfl
end Bd

/-! a setting's fault, as the law and as the package look -/
namespace Bd
open PySem PySem.Spec L2 Dn Pk
/-- a value that may be judged -/
def Gv (t : T) : Prop := (Od t = true ∧ t.lt 0 = true) ∧ ∀ rs, t = .tup rs → rs.length ≤ 1000 ∧ ∀ r ∈ rs, Wv r
def rowOk (b : Brd) (rs : List T) (i : Nat) : Bool := match (rs[i]? : Option T) with
  | some (.str z) => decide (z.length = wd b)
  | _ => false
def sgT (rs : List T) (i j : Nat) : Nat := match (rs[i]? : Option T) with
  | some (.str z) => (tl z)[j]?.getD 0
  | _ => 0
def fitc (k : Str) (s : Nat) : Bool := if k = "" then decide (s = 35) else decide (s ∈ tl k)
def cellF (b : Brd) (rs : List T) (i : Nat) : Option Nat := fb (wd b) fun j => fitc (at_ b i j) (sgT rs i j)
def wrd (k : Str) : Str := if k = "" then "wall" else "letter"
def cntR (q : List Str) : Nat := (q.filter fun k : Str => !decide (k = "")).length
def cntA (b : Brd) (m : Nat) : Nat := ((List.range m).map fun i => cntR (row b i)).sum
def fltR (b : Brd) (rs : List T) : Except (Int × Int × Str) Nat := if rs.length ≠ b.length then .error (-1, -1, "shape") else
    match fb b.length (rowOk b rs) with
    | some i => .error (i, -1, "row")
    | none => match fb b.length (fun i => (cellF b rs i).isNone) with
      | some i => .error (i, (cellF b rs i).getD 0, wrd (at_ b i ((cellF b rs i).getD 0)))
      | none => .ok (cntA b b.length)
def flt (b : Brd) : T → Except (Int × Int × Str) Nat
  | .tup rs => fltR b rs
  | _ => .error (-1, -1, "shape")
def tellF : Except (Int × Int × Str) Nat → T
  | .error (r, c, w) => .tup [.int r, .int c, .str w]
  | .ok n => .tup [.int n]
theorem tellF_ok {e : Except (Int × Int × Str) Nat} : Dt (tellF e) = true ∧ sz (tellF e) ≤ 1000 := by
  cases e with
  | error x => obtain ⟨r, c, w⟩ := x; simp [tellF, Dt, Dts, sz, szs]
  | ok n => simp [tellF, Dt, Dts, sz, szs]
theorem ch35 : T.str "#" = ch 35 := rfl
theorem KS_35 : ∀ k ∈ KS, 35 ∉ tl k := by decide +kernel
/-- the rows are texts of the board's width -/
structure Rows (b : Brd) (rs : List T) : Prop where
  len : rs.length = b.length
  form : ∀ i, i < b.length → rowOk b rs i = true
theorem Rows.row {b : Brd} {rs : List T} (h : Rows b rs) {i : Nat} (hi : i < b.length) : ∃ z, rs[i]? = some (.str z) ∧ z.length = wd b ∧ ∀ j, sgT rs i j = (tl z)[j]?.getD 0 := by
  have f := h.form i hi
  unfold rowOk at f
  unfold sgT
  split at f
  · rename_i z e
    exact ⟨z, e, by simpa using f, fun j => rfl⟩
  · simp at f
theorem cntA_succ (b : Brd) (m : Nat) : cntA b (m + 1) = cntA b m + cntR (row b m) := by
  unfold cntA
  rw [List.range_succ, List.map_append, List.sum_append]
  simp
def addC (c : Nat) (k : Str) : Nat := if k = "" then c else c + 1
theorem cnt_take {q : List Str} {j : Nat} (hj : j < q.length) (c : Nat) : addC (c + ((q.take j).filter fun k : Str => !decide (k = "")).length) (q[j]?.getD "") = c + ((q.take (j + 1)).filter fun k : Str => !decide (k = "")).length := by
  rw [List.getElem?_eq_getElem hj, List.take_succ, List.getElem?_eq_getElem hj]
  simp only [Option.getD_some, Option.toList_some, List.filter_append, List.length_append]
  unfold addC
  by_cases hq : q[j] = ""
  · simp [hq]
  · simp [hq]; omega
section
variable {b : Brd} {r c : Nat} {S : Sto} (W : KB b r c)
include W
theorem at_KS {i j : Nat} (hi : i < b.length) (hj : j < wd b) : at_ b i j ∈ KS := by
  have hl := len_row W.wb hi
  have e : at_ b i j = (row b i)[j] := by
    unfold at_
    rw [List.getElem?_eq_getElem (by omega)]
    rfl
  rw [e]
  exact W.ks _ (row_mem hi) _ (List.getElem_mem _)
theorem fault_row {rs : List T} (hl : rs.length = b.length) (hv : ∀ r ∈ rs, Wv r) {i : Nat} (hi : i < b.length) {x2 x4 x5 : Option T} :
    (rowOk b rs i = true ∧ L__law_fault_0 [some (eB b), some (.tup rs), x2, some (.int i), x4, x5] S = .nx [some (eB b), some (.tup rs), x2, some (.int i), x4, x5] S) ∨ (rowOk b rs i = false ∧ L__law_fault_0 [some (eB b), some (.tup rs), x2, some (.int i), x4, x5] S = .rt (.tup [.int i, .int (-1), .str "row"]) S) := by
  have hr : rs[i]? = some rs[i] := List.getElem?_eq_getElem (by omega)
  have hV := hv rs[i] (List.getElem_mem (by omega))
  have hwc := W.wb.fewc
  unfold rowOk
  rw [hr]
  generalize rs[i] = t at hr hV
  have fr := hV.fz
  obtain ⟨hO, hK⟩ := hV
  cases t with
  | str z =>
    have hz : z.length ≤ 16777216 := by have := hK z rfl; omega
    by_cases q : z.length = wd b
    · left
      refine ⟨by simp [q], ?_⟩
      have hz' : wd b ≤ 16777216 := by omega
      simp [L__law_fault_0, atI_n, hr, isaB, hz, q, hz', ix_row W.wb hi, len_row W.wb hi]
    · right
      refine ⟨by simp [q], ?_⟩
      simp [L__law_fault_0, atI_n, hr, isaB, hz, q, ix_row W.wb hi, len_row W.wb hi]
      try omega
  | non => right; exact ⟨rfl, by simp [L__law_fault_0, atI_n, hr, isaB]⟩
  | bl _ => right; exact ⟨rfl, by simp [L__law_fault_0, atI_n, hr, isaB]⟩
  | int _ => right; exact ⟨rfl, by simp [L__law_fault_0, atI_n, hr, isaB]⟩
  | tup _ => right; exact ⟨rfl, by simp [L__law_fault_0, atI_n, hr, isaB]⟩
  | lst _ => right; exact ⟨rfl, by simp [L__law_fault_0, atI_n, hr, isaB]⟩
  | _ => simp [Od] at hO
theorem fault_cell {rs : List T} (h : Rows b rs) {i j : Nat} (hi : i < b.length) (hj : j < wd b) {n : Nat} {x5 : Option T} :
    (fitc (at_ b i j) (sgT rs i j) = true ∧ L__law_fault_1 [some (eB b), some (.tup rs), some (.int n), some (.int i), some (.int j), x5] S = .nx [some (eB b), some (.tup rs), some (.int (addC n (at_ b i j) : Nat)), some (.int i), some (.int j), some (ch (sgT rs i j))] S) ∨ (fitc (at_ b i j) (sgT rs i j) = false ∧ L__law_fault_1 [some (eB b), some (.tup rs), some (.int n), some (.int i), some (.int j), x5] S = .rt (.tup [.int i, .int j, .str (wrd (at_ b i j))]) S) := by
  obtain ⟨z, hr, hz, hs⟩ := h.row hi
  have hwc := W.wb.fewc
  have e5 := fIx_str (S := S) (z := z) (i := j) (by omega) (by omega)
  have hk := at_KS W hi hj
  rw [hs j]
  generalize (tl z)[j]?.getD 0 = s at *
  have hrow := ix_row (S := S) W.wb hi
  have hcell := ix_cell (S := S) W.wb hi hj
  generalize at_ b i j = k at *
  by_cases h0 : k = ""
  · subst h0
    by_cases h1 : s = 35
    · left
      subst h1
      refine ⟨by simp [fitc], ?_⟩
      simp [L__law_fault_1, atI_n, hr, e5, hrow, hcell, ch35, addC]
    · right
      refine ⟨by simp [fitc, h1], ?_⟩
      simp [L__law_fault_1, atI_n, hr, e5, hrow, hcell, ch35, h1, wrd]
  · by_cases h1 : s ∈ tl k
    · left
      have h2 : s ≠ 35 := fun e => KS_35 k hk (by rw [← e]; exact h1)
      refine ⟨by simp [fitc, h0, h1], ?_⟩
      simp [L__law_fault_1, atI_n, hr, e5, hrow, hcell, ch35, h0, h1, h2, addC]
    · right
      refine ⟨by simp [fitc, h0, h1], ?_⟩
      simp [L__law_fault_1, atI_n, hr, e5, hrow, hcell, ch35, h0, h1, wrd]
theorem fault_cells {rs : List T} (h : Rows b rs) {i : Nat} (hi : i < b.length) {n : Nat} {x4 x5 : Option T} :
    (cellF b rs i = none ∧ ∃ y4 y5, L__law_fault_2 [some (eB b), some (.tup rs), some (.int n), some (.int i), x4, x5] S = .nx [some (eB b), some (.tup rs), some (.int ((n + cntR (row b i) : Nat))), some (.int i), y4, y5] S) ∨ (∃ j, cellF b rs i = some j ∧ L__law_fault_2 [some (eB b), some (.tup rs), some (.int n), some (.int i), x4, x5] S = .rt (.tup [.int i, .int j, .str (wrd (at_ b i j))]) S) := by
  have hwc := W.wb.fewc
  have hlr := len_row W.wb hi
  have hf := dFor_eq (dRng1 (dCons (dCall fLen (dCons (dBin fIx (dVar 0) (dVar 3)) dNil)) dNil)) (gN 4) L__law_fault_1 [some (eB b), some (.tup rs), some (.int n), some (.int i), x4, x5] S (dRng1_eq (n := wd b) (S1 := S) (by simp [ix_row W.wb hi, hlr]) (by omega))
  rcases for_rng (all := (List.range (wd b)).map fun k => T.int (k : Nat)) (g := gN 4) (b := L__law_fault_1) (S := S) (n := wd b) (fun j => fitc (at_ b i j) (sgT rs i j)) (fun j => .rt (.tup [.int i, .int j, .str (wrd (at_ b i j))]) S)
    (fun j sl => ∃ y4 y5, sl = [some (eB b), some (.tup rs), some (.int ((n + (((row b i).take j).filter fun k : Str => !decide (k = "")).length : Nat))), some (.int i), y4, y5]) (fun _ => trivial) (by
      rintro j hj _ sl ⟨y4, y5, rfl⟩
      refine ⟨_, gN_eq _, ?_⟩
      rcases fault_cell (S := S) W h hi hj (n := n + (((row b i).take j).filter fun k : Str => !decide (k = "")).length) (x5 := y5) with ⟨q1, q2⟩ | ⟨q1, q2⟩
      · refine .inl ⟨q1, _, q2, some (.int (j : Nat)), some (ch (sgT rs i j)), ?_⟩
        have := cnt_take (q := row b i) (j := j) (by omega) n
        unfold at_
        rw [this]
      · exact .inr ⟨q1, q2⟩) [some (eB b), some (.tup rs), some (.int n), some (.int i), x4, x5] ⟨x4, x5, by simp⟩ with ⟨q1, sl', q2, y4, y5, rfl⟩ | ⟨j, q1, _, q2⟩
  · refine .inl ⟨q1, y4, y5, ?_⟩
    unfold L__law_fault_2
    rw [hf, q2]
    unfold cntR
    rw [List.take_of_length_le (by omega)]
  · refine .inr ⟨j, q1, ?_⟩
    unfold L__law_fault_2
    rw [hf, q2]
theorem fault_ok {t : T} (h : Gv t) : F__law_fault [eB b, t] S = .ok (tellF (flt b t)) S := by
  obtain ⟨⟨hO, hlt⟩, hv⟩ := h
  have ft := Od_fz hO
  have hfew := W.wb.few
  by_cases ht : ∃ rs, t = .tup rs
  · obtain ⟨rs, rfl⟩ := ht
    obtain ⟨hl, hR⟩ := hv rs rfl
    have hz : rs.length ≤ 16777216 := by omega
    show _ = RE.ok (tellF (fltR b rs)) S
    unfold fltR
    by_cases q1 : rs.length = b.length
    · rw [if_neg (by omega)]
      have hz' : b.length ≤ 16777216 := by omega
      let sh := fun (x2 x3 x4 x5 : Option T) => [some (eB b), some (T.tup rs), x2, x3, x4, x5]
      have hd1 := dFor_eq (dRng1 (dCons (dCall fLen (dCons (dVar 0) dNil)) dNil)) (gN 3) L__law_fault_0 (sh (some (.int 0)) none none none) S (dRng1_eq (n := b.length) (S1 := S) (by simp [sh]) (by omega))
      have head : ∀ k : DS, (dSeq (dIf (dOr (dNot (dTru (dIsi "tuple" (dVar 1)))) (dTest (dBin (fEq true) (dCall fLen (dCons (dVar 1) dNil)) (dCall fLen (dCons (dVar 0) dNil)))))
          (dRet (dTup (dCons (dUn fNeg (dC (.int 1))) (dCons (dUn fNeg (dC (.int 1))) (dCons (dC (.str "shape")) dNil)))))
          dNext)
          (dSeq (dSet 2 (dC (.int 0))) k)) (sh none none none none) S = k (sh (some (.int 0)) none none none) S := fun k => by
        simp [sh, isaB, hz, hz', q1]
      unfold F__law_fault
      rw [dFun_eq (np := 2) (n := 6) (ts := [eB b, .tup rs]) rfl]
      show gcR S (b__law_fault (sh none none none none) S) = _
      unfold b__law_fault
      rw [head, dSeq_eq, hd1]
      rcases for_rng (all := (List.range b.length).map fun k => T.int (k : Nat)) (g := gN 3) (b := L__law_fault_0) (S := S) (n := b.length) (rowOk b rs) (fun i => .rt (.tup [.int i, .int (-1), .str "row"]) S)
        (fun i sl => ∃ x3, sl = sh (some (.int 0)) x3 none none) (fun _ => trivial) (by
          rintro i hi _ sl ⟨x3, rfl⟩
          refine ⟨_, gN_eq _, ?_⟩
          rcases fault_row (S := S) W q1 hR hi (x2 := some (.int 0)) (x4 := none) (x5 := none) with ⟨q1, q2⟩ | ⟨q1, q2⟩
          · exact .inl ⟨q1, _, q2, _, rfl⟩
          · exact .inr ⟨q1, q2⟩) (sh (some (.int 0)) none none none) ⟨_, rfl⟩ with ⟨p1, sl', p2, x3, rfl⟩ | ⟨i, p1, hi, p2⟩
      · rw [p2, RS.seq_nx, p1]
        have Rw : Rows b rs := ⟨q1, fb_none.mp p1⟩
        have hd2 := dFor_eq (dRng1 (dCons (dCall fLen (dCons (dVar 0) dNil)) dNil)) (gN 3) L__law_fault_2 (sh (some (.int 0)) x3 none none) S (dRng1_eq (n := b.length) (S1 := S) (by simp [sh]) (by omega))
        rw [dSeq_eq, hd2]
        rcases for_rng (all := (List.range b.length).map fun k => T.int (k : Nat)) (g := gN 3) (b := L__law_fault_2) (S := S) (n := b.length) (fun i => (cellF b rs i).isNone) (fun i => .rt (.tup [.int i, .int ((cellF b rs i).getD 0 : Nat), .str (wrd (at_ b i ((cellF b rs i).getD 0)))]) S)
          (fun i sl => ∃ x3 x4 x5, sl = sh (some (.int (cntA b i : Nat))) x3 x4 x5) (fun _ => trivial) (by
            rintro i hi hp sl ⟨x3, x4, x5, rfl⟩
            refine ⟨_, gN_eq _, ?_⟩
            rcases fault_cells (S := S) W Rw hi (n := cntA b i) (x4 := x4) (x5 := x5) with ⟨q1, y4, y5, q2⟩ | ⟨j, q1, q2⟩
            · refine .inl ⟨by rw [q1]; rfl, _, q2, some (.int (i : Nat)), y4, y5, ?_⟩
              rw [cntA_succ]
            · refine .inr ⟨by rw [q1]; rfl, ?_⟩
              rw [q1]
              exact q2) (sh (some (.int 0)) x3 none none) ⟨_, _, _, rfl⟩ with ⟨r1, sl', r2, x3, x4, x5, rfl⟩ | ⟨i, r1, hi, r2⟩
        · rw [r2, RS.seq_nx, r1]
          simp [sh, tellF]
          rw [gcT_same (by simp)]
        · rw [r2, r1]
          simp [tellF]
          rw [gcT_same (by simp)]
      · rw [p2, p1]
        simp [tellF]
        rw [gcT_same (by simp)]
    · rw [if_pos q1]
      have q1' : ¬ ((rs.length : Nat) : Int) = (b.length : Nat) := by omega
      simp [F__law_fault, dFun_eq, b__law_fault, isaB, hz, q1, q1', tellF]
      rw [gcT_same (by simp)]
  · have e : flt b t = .error (-1, -1, "shape") := by
      cases t with
      | tup ks => exact absurd ⟨ks, rfl⟩ ht
      | _ => rfl
    rw [e]
    cases t with
    | tup ks => exact absurd ⟨ks, rfl⟩ ht
    | non => simp [F__law_fault, dFun_eq, b__law_fault, isaB, tellF]; rw [gcT_same (by simp)]
    | bl _ => simp [F__law_fault, dFun_eq, b__law_fault, isaB, tellF]; rw [gcT_same (by simp)]
    | int _ => simp [F__law_fault, dFun_eq, b__law_fault, isaB, tellF]; rw [gcT_same (by simp)]
    | str _ => simp [F__law_fault, dFun_eq, b__law_fault, isaB, tellF]; rw [gcT_same (by simp)]
    | lst _ => simp [F__law_fault, dFun_eq, b__law_fault, isaB, tellF]; rw [gcT_same (by simp)]
    | _ => simp [Od] at hO
end
end Bd

/-! check_setting of any value; the law's look; both judged alike -/
namespace Bd
open PySem PySem.Spec L2 Dn Pk
abbrev bbf (r c : Int) (w : Str) : Flds := [("word", .str w), ("column", .int c), ("row", .int r)]
abbrev bbx (r c : Int) (w : Str) (S : Sto) : RE := .exc "BadSetting" (bbf r c w) S
theorem fits_kind_ok {k : Str} {s : Nat} {S : Sto} : F_fits_kind [.str k, ch s] S = .ok (.bl (fitc k s)) S := by
  by_cases h0 : k = ""
  · subst h0
    simp [F_fits_kind, dFun_eq, b_fits_kind, fitc, ch35]
    rw [gcT_same (by simp)]
  · simp [F_fits_kind, dFun_eq, b_fits_kind, fitc, h0]
    rw [gcT_same (by simp)]
section
variable {b : Brd} {r c : Nat} {S : Sto} (W : KB b r c)
include W
theorem look_sign_ok {i j s : Nat} (hi : i < b.length) (hj : j < wd b) : F_look_at_sign [eB b, .int i, .int j, ch s] S = if fitc (at_ b i j) s then .ok .non S else bbx i j (wrd (at_ b i j)) S := by
  have hrow := ix_row (S := S) W.wb hi
  have hcell := ix_cell (S := S) W.wb hi hj
  generalize at_ b i j = k at *
  have hf := fits_kind_ok (k := k) (s := s) (S := S)
  cases q : fitc k s with
  | true =>
    rw [q] at hf
    simp [F_look_at_sign, dFun_eq, b_look_at_sign, hrow, hcell, hf]
    rw [gcT_same (by simp)]
  | false =>
    rw [q] at hf
    by_cases h0 : k = ""
    · subst h0
      simp [F_look_at_sign, dFun_eq, b_look_at_sign, hrow, hcell, hf, wrd]
      rw [gcX_same (by simp)]
    · simp [F_look_at_sign, dFun_eq, b_look_at_sign, hrow, hcell, hf, h0, wrd]
      rw [gcX_same (by simp)]
theorem chk_row {rs : List T} (hl : rs.length = b.length) (hv : ∀ r ∈ rs, Wv r) {i : Nat} (hi : i < b.length) {x3 x4 : Option T} :
    (rowOk b rs i = true ∧ L_check_setting_0 [some (eB b), some (.tup rs), some (.int i), x3, x4] S = .nx [some (eB b), some (.tup rs), some (.int i), x3, x4] S) ∨ (rowOk b rs i = false ∧ L_check_setting_0 [some (eB b), some (.tup rs), some (.int i), x3, x4] S = .exc "BadSetting" (bbf i (-1) "row") [some (eB b), some (.tup rs), some (.int i), x3, x4] S) := by
  have hr : rs[i]? = some rs[i] := List.getElem?_eq_getElem (by omega)
  have hV := hv rs[i] (List.getElem_mem (by omega))
  have hwc := W.wb.fewc
  unfold rowOk
  rw [hr]
  generalize rs[i] = t at hr hV
  have fr := hV.fz
  obtain ⟨hO, hK⟩ := hV
  cases t with
  | str z =>
    have hz : z.length ≤ 16777216 := by have := hK z rfl; omega
    by_cases q : z.length = wd b
    · left
      refine ⟨by simp [q], ?_⟩
      have hz' : wd b ≤ 16777216 := by omega
      simp [L_check_setting_0, atI_n, hr, isaB, hz, q, hz', ix_row W.wb hi, len_row W.wb hi]
    · right
      refine ⟨by simp [q], ?_⟩
      have q' : ¬ ((z.length : Nat) : Int) = (wd b : Nat) := by omega
      simp [L_check_setting_0, atI_n, hr, isaB, hz, q, q', ix_row W.wb hi, len_row W.wb hi]
  | non => right; exact ⟨rfl, by simp [L_check_setting_0, atI_n, hr, isaB]⟩
  | bl _ => right; exact ⟨rfl, by simp [L_check_setting_0, atI_n, hr, isaB]⟩
  | int _ => right; exact ⟨rfl, by simp [L_check_setting_0, atI_n, hr, isaB]⟩
  | tup _ => right; exact ⟨rfl, by simp [L_check_setting_0, atI_n, hr, isaB]⟩
  | lst _ => right; exact ⟨rfl, by simp [L_check_setting_0, atI_n, hr, isaB]⟩
  | _ => simp [Od] at hO
theorem chk_cell {rs : List T} (h : Rows b rs) {i j : Nat} (hi : i < b.length) (hj : j < wd b) {n : Nat} :
    (fitc (at_ b i j) (sgT rs i j) = true ∧ L_check_setting_1 [some (eB b), some (.tup rs), some (.int i), some (.int n), some (.int j)] S = .nx [some (eB b), some (.tup rs), some (.int i), some (.int (addC n (at_ b i j) : Nat)), some (.int j)] S) ∨ (fitc (at_ b i j) (sgT rs i j) = false ∧ L_check_setting_1 [some (eB b), some (.tup rs), some (.int i), some (.int n), some (.int j)] S = .exc "BadSetting" (bbf i j (wrd (at_ b i j))) [some (eB b), some (.tup rs), some (.int i), some (.int n), some (.int j)] S) := by
  obtain ⟨z, hr, hz, hs⟩ := h.row hi
  have hwc := W.wb.fewc
  have e5 := fIx_str (S := S) (z := z) (i := j) (by omega) (by omega)
  rw [hs j]
  generalize (tl z)[j]?.getD 0 = s at *
  have hl := look_sign_ok (S := S) W (s := s) hi hj
  have hrow := ix_row (S := S) W.wb hi
  have hcell := ix_cell (S := S) W.wb hi hj
  generalize at_ b i j = k at *
  cases q : fitc k s with
  | true =>
    rw [q, if_pos rfl] at hl
    left
    refine ⟨rfl, ?_⟩
    by_cases h0 : k = ""
    · simp [L_check_setting_1, atI_n, hr, e5, hl, hrow, hcell, h0, addC]
    · simp [L_check_setting_1, atI_n, hr, e5, hl, hrow, hcell, h0, addC, dAug, fAddI]
  | false =>
    rw [q, if_neg (by simp)] at hl
    right
    refine ⟨rfl, ?_⟩
    simp [L_check_setting_1, atI_n, hr, e5, hl]
omit W in
def eSl (b : Brd) (rs : List T) (i n j : Nat) : Sl := [some (eB b), some (.tup rs), some (.int i), some (.int ((n + (((row b i).take j).filter fun k : Str => !decide (k = "")).length : Nat))), some (.int (j : Nat))]
theorem chk_cells {rs : List T} (h : Rows b rs) {i : Nat} (hi : i < b.length) {n : Nat} {x4 : Option T} :
    (cellF b rs i = none ∧ ∃ y4, L_check_setting_2 [some (eB b), some (.tup rs), some (.int i), some (.int n), x4] S = .nx [some (eB b), some (.tup rs), some (.int i), some (.int ((n + cntR (row b i) : Nat))), y4] S) ∨ (∃ j, cellF b rs i = some j ∧ L_check_setting_2 [some (eB b), some (.tup rs), some (.int i), some (.int n), x4] S = .exc "BadSetting" (bbf i j (wrd (at_ b i j))) (eSl b rs i n j) S) := by
  have hwc := W.wb.fewc
  have hlr := len_row W.wb hi
  have hf := dFor_eq (dRng1 (dCons (dCall fLen (dCons (dBin fIx (dVar 0) (dVar 2)) dNil)) dNil)) (gN 4) L_check_setting_1 [some (eB b), some (.tup rs), some (.int i), some (.int n), x4] S (dRng1_eq (n := wd b) (S1 := S) (by simp [ix_row W.wb hi, hlr]) (by omega))
  rcases for_rng (all := (List.range (wd b)).map fun k => T.int (k : Nat)) (g := gN 4) (b := L_check_setting_1) (S := S) (n := wd b) (fun j => fitc (at_ b i j) (sgT rs i j)) (fun j => .exc "BadSetting" (bbf i j (wrd (at_ b i j))) (eSl b rs i n j) S)
    (fun j sl => ∃ y4, sl = [some (eB b), some (.tup rs), some (.int i), some (.int ((n + (((row b i).take j).filter fun k : Str => !decide (k = "")).length : Nat))), y4]) (fun _ => trivial) (by
      rintro j hj _ sl ⟨y4, rfl⟩
      refine ⟨_, gN_eq _, ?_⟩
      rcases chk_cell (S := S) W h hi hj (n := n + (((row b i).take j).filter fun k : Str => !decide (k = "")).length) with ⟨q1, q2⟩ | ⟨q1, q2⟩
      · refine .inl ⟨q1, _, q2, some (.int (j : Nat)), ?_⟩
        have := cnt_take (q := row b i) (j := j) (by omega) n
        unfold at_
        rw [this]
      · exact .inr ⟨q1, q2⟩) [some (eB b), some (.tup rs), some (.int i), some (.int n), x4] ⟨x4, by simp⟩ with ⟨q1, sl', q2, y4, rfl⟩ | ⟨j, q1, _, q2⟩
  · refine .inl ⟨q1, y4, ?_⟩
    unfold L_check_setting_2
    rw [hf, q2]
    unfold cntR
    rw [List.take_of_length_le (by omega)]
  · refine .inr ⟨j, q1, ?_⟩
    unfold L_check_setting_2
    rw [hf, q2]
omit W in
def resF (e : Except (Int × Int × Str) Nat) (S : Sto) : RE := match e with
  | .error (r, c, w) => bbx r c w S
  | .ok n => .ok (.int n) S
theorem check_ok {t : T} (h : Gv t) : F_check_setting [eB b, t] S = resF (flt b t) S := by
  obtain ⟨⟨hO, hlt⟩, hv⟩ := h
  have ft := Od_fz hO
  have hfew := W.wb.few
  by_cases ht : ∃ rs, t = .tup rs
  · obtain ⟨rs, rfl⟩ := ht
    obtain ⟨hl, hR⟩ := hv rs rfl
    have hz : rs.length ≤ 16777216 := by omega
    show _ = resF (fltR b rs) S
    unfold fltR
    by_cases q1 : rs.length = b.length
    · rw [if_neg (by omega)]
      have hz' : b.length ≤ 16777216 := by omega
      let sh := fun (x2 x3 x4 : Option T) => [some (eB b), some (T.tup rs), x2, x3, x4]
      have hd1 := dFor_eq (dRng1 (dCons (dCall fLen (dCons (dVar 0) dNil)) dNil)) (gN 2) L_check_setting_0 (sh none none none) S (dRng1_eq (n := b.length) (S1 := S) (by simp [sh]) (by omega))
      have head : ∀ k : DS, (dSeq (dIf (dOr (dNot (dTru (dIsi "tuple" (dVar 1)))) (dTest (dBin (fEq true) (dCall fLen (dCons (dVar 1) dNil)) (dCall fLen (dCons (dVar 0) dNil)))))
          (dRaise "BadSetting" 4 [("row", 1), ("column", 2), ("word", 3)] (dCons (dUn fNeg (dC (.int 1))) (dCons (dUn fNeg (dC (.int 1))) (dCons (dC (.str "shape")) dNil))))
          dNext) k) (sh none none none) S = k (sh none none none) S := fun k => by
        simp [sh, isaB, hz, hz', q1]
      unfold F_check_setting
      rw [dFun_eq (np := 2) (n := 5) (ts := [eB b, .tup rs]) rfl]
      show gcR S (b_check_setting (sh none none none) S) = _
      unfold b_check_setting
      rw [head, dSeq_eq, hd1]
      rcases for_rng (all := (List.range b.length).map fun k => T.int (k : Nat)) (g := gN 2) (b := L_check_setting_0) (S := S) (n := b.length) (rowOk b rs) (fun i => .exc "BadSetting" (bbf i (-1) "row") (sh (some (.int (i : Nat))) none none) S)
        (fun i sl => ∃ x2, sl = sh x2 none none) (fun _ => trivial) (by
          rintro i hi _ sl ⟨x2, rfl⟩
          refine ⟨_, gN_eq _, ?_⟩
          rcases chk_row (S := S) W q1 hR hi (x3 := none) (x4 := none) with ⟨q1, q2⟩ | ⟨q1, q2⟩
          · exact .inl ⟨q1, _, q2, _, rfl⟩
          · exact .inr ⟨q1, q2⟩) (sh none none none) ⟨_, rfl⟩ with ⟨p1, sl', p2, x2, rfl⟩ | ⟨i, p1, hi, p2⟩
      · rw [p2, RS.seq_nx, p1]
        have Rw : Rows b rs := ⟨q1, fb_none.mp p1⟩
        have s3 : dSet 3 (dC (.int 0)) (sh x2 none none) S = .nx (sh x2 (some (.int 0)) none) S := by simp [sh]
        have hd2 := dFor_eq (dRng1 (dCons (dCall fLen (dCons (dVar 0) dNil)) dNil)) (gN 2) L_check_setting_2 (sh x2 (some (.int 0)) none) S (dRng1_eq (n := b.length) (S1 := S) (by simp [sh]) (by omega))
        rw [dSeq_eq, s3, RS.seq_nx, dSeq_eq, hd2]
        rcases for_rng (all := (List.range b.length).map fun k => T.int (k : Nat)) (g := gN 2) (b := L_check_setting_2) (S := S) (n := b.length) (fun i => (cellF b rs i).isNone) (fun i => .exc "BadSetting" (bbf i ((cellF b rs i).getD 0 : Nat) (wrd (at_ b i ((cellF b rs i).getD 0)))) (eSl b rs i (cntA b i) ((cellF b rs i).getD 0)) S)
          (fun i sl => ∃ x2 x4, sl = sh x2 (some (.int (cntA b i : Nat))) x4) (fun _ => trivial) (by
            rintro i hi hp sl ⟨x2, x4, rfl⟩
            refine ⟨_, gN_eq _, ?_⟩
            rcases chk_cells (S := S) W Rw hi (n := cntA b i) (x4 := x4) with ⟨q1, y4, q2⟩ | ⟨j, q1, q2⟩
            · refine .inl ⟨by rw [q1]; rfl, _, q2, some (.int (i : Nat)), y4, ?_⟩
              rw [cntA_succ]
            · refine .inr ⟨by rw [q1]; rfl, ?_⟩
              rw [q1]
              exact q2) (sh x2 (some (.int 0)) none) ⟨_, _, rfl⟩ with ⟨r1, sl', r2, x2, x4, rfl⟩ | ⟨i, r1, hi, r2⟩
        · rw [r2, RS.seq_nx, r1]
          simp [sh, resF]
          rw [gcT_same (by simp)]
        · rw [r2, r1]
          simp [resF]
          rw [gcX_same (by simp)]
      · rw [p2, p1]
        simp [resF]
        rw [gcX_same (by simp)]
    · rw [if_pos q1]
      have q1' : ¬ ((rs.length : Nat) : Int) = (b.length : Nat) := by omega
      simp [F_check_setting, dFun_eq, b_check_setting, isaB, hz, q1, q1', resF]
      rw [gcX_same (by simp)]
  · have e : flt b t = .error (-1, -1, "shape") := by
      cases t with
      | tup ks => exact absurd ⟨ks, rfl⟩ ht
      | _ => rfl
    rw [e]
    cases t with
    | tup ks => exact absurd ⟨ks, rfl⟩ ht
    | non => simp [F_check_setting, dFun_eq, b_check_setting, isaB, resF]; rw [gcX_same (by simp)]
    | bl _ => simp [F_check_setting, dFun_eq, b_check_setting, isaB, resF]; rw [gcX_same (by simp)]
    | int _ => simp [F_check_setting, dFun_eq, b_check_setting, isaB, resF]; rw [gcX_same (by simp)]
    | str _ => simp [F_check_setting, dFun_eq, b_check_setting, isaB, resF]; rw [gcX_same (by simp)]
    | lst _ => simp [F_check_setting, dFun_eq, b_check_setting, isaB, resF]; rw [gcX_same (by simp)]
    | _ => simp [Od] at hO
theorem told_ok {t : T} (h : Gv t) : F__law_told_v5 [eB b, t] S = .ok (tellF (flt b t)) S := by
  have e := check_ok (S := S) W h
  have ft := Od_fz h.1.1
  cases q : flt b t with
  | error x =>
    obtain ⟨r, c, w⟩ := x
    rw [q] at e
    simp only [resF] at e
    have hb1 : List.lookup ("BadSetting" : Str) [("BadSetting", true), ("BadStep", false)] = some true := rfl
    have l1 : List.lookup ("row" : Str) (bbf r c w) = some (.int r) := rfl
    have l2 : List.lookup ("column" : Str) (bbf r c w) = some (.int c) := rfl
    have l3 : List.lookup ("word" : Str) (bbf r c w) = some (.str w) := rfl
    simp [F__law_told_v5, dFun_eq, b__law_told_v5, ft, e, hb1, l1, l2, l3, tellF]
    rw [gcT_same (by simp)]
  | ok n =>
    rw [q] at e
    simp only [resF] at e
    simp [F__law_told_v5, dFun_eq, b__law_told_v5, ft, e, tellF]
    rw [gcT_same (by simp)]
omit W in
def isOk (e : Except (Int × Int × Str) Nat) : Bool := match e with
  | .ok _ => true
  | .error _ => false
theorem is_setting_ok {t : T} (h : Gv t) : F_is_setting [eB b, t] S = .ok (.bl (isOk (flt b t))) S := by
  have e := check_ok (S := S) W h
  have ft := Od_fz h.1.1
  cases q : flt b t with
  | error x =>
    obtain ⟨r, c, w⟩ := x
    rw [q] at e
    simp only [resF] at e
    simp [F_is_setting, dFun_eq, b_is_setting, ft, e, List.lookup, isOk]
    rw [gcT_same (by simp)]
  | ok n =>
    rw [q] at e
    simp only [resF] at e
    simp [F_is_setting, dFun_eq, b_is_setting, ft, e, isOk]
    rw [gcT_same (by simp)]
theorem judged_ok {t : T} (h : Gv t) : F__law_judged [eB b, t] S = .ok (.bl true) S := by
  have e1 := fault_ok (S := S) W h
  have e2 := told_ok (S := S) W h
  have e3 := is_setting_ok (S := S) W h
  have ft := Od_fz h.1.1
  have hs := tellF_ok (e := flt b t)
  have s1 := same_ok (S := S) hs.1 (by omega)
  have s2 : ∀ b, F__law_same_v1 [.bl b, .bl b] S = .ok (.bl true) S := fun b => same_ok (by simp [Dt]) (by simp [sz])
  cases q : flt b t with
  | error x =>
    obtain ⟨r, c, w⟩ := x
    rw [q] at e1 e2 e3 s1
    simp only [tellF, isOk] at e1 e2 e3 s1
    simp [F__law_judged, dFun_eq, b__law_judged, ft, e1, e2, e3, s1, s2]
    rw [gcT_same (by simp)]
  | ok n =>
    rw [q] at e1 e2 e3 s1
    simp only [tellF, isOk] at e1 e2 e3 s1
    simp [F__law_judged, dFun_eq, b__law_judged, ft, e1, e2, e3, s1, s2]
    rw [gcT_same (by simp)]
end
end Bd

/-! drawn settings are right -/
namespace Bd
open PySem PySem.Spec L2 Dn Pk
theorem KB.pos {b : Brd} {r c : Nat} (h : KB b r c) : 0 < r ∧ 0 < c ∧ r ≤ 100 ∧ c ≤ 100 := by
  have := h.wb.rows; have := h.wb.cols; have := h.wb.few; have := h.wb.fewc; have := h.len; have := h.wid
  omega
structure SB (st : List Str) (r c : Nat) : Prop where
  len : st.length = r
  wid : ∀ s ∈ st, s.length = c
def srow (st : List Str) (i : Nat) : Str := st[i]?.getD ""
def sg (st : List Str) (i j : Nat) : Nat := (tl (srow st i))[j]?.getD 0
theorem fIx_str0 {S : Sto} {z : Str} (hl : z.length ≤ 16777216) (h : 0 < z.length) : fIx (.str z) (.int 0) S = .ok (ch ((tl z)[0]?.getD 0)) S := fIx_str (i := 0) hl h
section
variable {b : Brd} {st : List Str} {r c : Nat} {S : Sto} (W : KB b r c) (V : SB st r c)
include W V
theorem srow_len {i : Nat} (hi : i < b.length) : (srow st i).length = c := by
  have hl := V.len
  have hw := W.len
  unfold srow
  rw [List.getElem?_eq_getElem (by omega)]
  exact V.wid _ (List.getElem_mem _)
theorem st_ix {i : Nat} (hi : i < b.length) : fIx (eR st) (.int i) S = .ok (.str (srow st i)) S := by
  have hl := V.len
  have hw := W.len
  unfold eR srow
  rw [fIx_tup, atI_n, List.getElem?_map, List.getElem?_eq_getElem (by omega)]
  rfl
theorem st_cell {i j : Nat} (hi : i < b.length) (hj : j < wd b) : fIx (.str (srow st i)) (.int j) S = .ok (ch (sg st i j)) S := by
  have h1 := srow_len W V hi
  have h2 := W.wid
  have h3 := W.wb.fewc
  exact fIx_str (by omega) (by omega)
end
theorem fIx_strm1 {S : Sto} {z : Str} (hl : z.length ≤ 16777216) (h : 0 < z.length) : ∃ c, c ∈ tl z ∧ fIx (.str z) (.int (-1)) S = .ok (ch c) S := by
  have hi : 0 < (tl z).length := by rw [len_tl]; exact h
  obtain ⟨c, hc⟩ : ∃ c, (tl z).getLast? = some c := by
    cases e : (tl z).getLast? with
    | none => rw [List.getLast?_eq_none_iff] at e; rw [e] at hi; cases hi
    | some c => exact ⟨c, rfl⟩
  refine ⟨c, List.mem_of_getLast? hc, ?_⟩
  show (if z.length ≤ sizeLine then (match atI (tl z) (-1) with | some c => RE.ok (T.str ⟨#[c]⟩) S | none => .bad) else .bad) = _
  rw [if_pos (by simpa using hl), atI_m1, hc]
theorem tl_mem {z : Str} {i : Nat} (h : i < z.length) : (tl z)[i]?.getD 0 ∈ tl z := by
  rw [List.getElem?_eq_getElem (by rw [len_tl]; exact h)]
  exact List.getElem_mem _
theorem tl_cat (P : Str) (c : Nat) : tl (P ++ (⟨#[c]⟩ : Str)) = tl P ++ [c] := by
  have : P ++ (⟨#[c]⟩ : Str) = Sx (tl P ++ [c]) := by
    conv => lhs; rw [← Sx_tl P]
    exact Sx_cat (tl P) [c]
  rw [this]
  rfl
/-- a row of signs that fits a row of kinds -/
def Fq (q : List Str) (P : Str) : Prop := P.length = q.length ∧ ∀ m, m < q.length → fitc (q[m]?.getD "") ((tl P)[m]?.getD 0) = true
theorem Fq.snoc {q : List Str} {P : Str} (h : Fq q P) {k : Str} {s : Nat} (hs : fitc k s = true) : Fq (q ++ [k]) (P ++ (⟨#[s]⟩ : Str)) := by
  obtain ⟨h1, h2⟩ := h
  have e := tl_cat P s
  have hl : (tl P).length = q.length := by rw [len_tl]; exact h1
  refine ⟨?_, fun m hm => ?_⟩
  · rw [← len_tl, e]; simp [hl]
  · rw [e]
    by_cases hm' : m < q.length
    · rw [List.getElem?_append_left hm', List.getElem?_append_left (by omega)]
      exact h2 m hm'
    · have em : m = q.length := by simp at hm; omega
      rw [List.getElem?_append_right (by omega), List.getElem?_append_right (by omega), hl, em]
      simpa using hs
theorem Fq.nil : Fq [] ("" : Str) := ⟨rfl, fun m hm => by simp at hm⟩
def Rt (b : Brd) (st : List Str) : Prop := ∀ i, i < b.length → ∀ j, j < wd b → fitc (at_ b i j) (sg st i j) = true
theorem fitc_wall : fitc "" 35 = true := by decide +kernel
theorem fitc_in {k : Str} {s : Nat} (h0 : k ≠ "") (h : s ∈ tl k) : fitc k s = true := by simp [fitc, h0, h]
theorem cat1 {P : Str} {c : Nat} {S : Sto} (h : P.length ≤ 1000) : fAdd (.str P) (ch c) S = .ok (.str (P ++ (⟨#[c]⟩ : Str))) S ∧ (P ++ (⟨#[c]⟩ : Str)).length = P.length + 1 := by
  have l1 : (⟨#[c]⟩ : Str).length = 1 := rfl
  have l2 : (P ++ (⟨#[c]⟩ : Str)).length = P.length + 1 := by
    show (P.cps ++ #[c]).size = _
    simp
    rfl
  refine ⟨?_, l2⟩
  rw [fAdd_str, if_pos (by rw [l1]; simp; omega)]
theorem law_setting_ok {b : Brd} {r c : Nat} {S : Sto} (W : KB b r c) (hw : Cw S) : ∃ st S1, F__law_setting_v1 [.ref 1, eB b] S = .ok (eR st) S1 ∧ SB st r c ∧ Rt b st ∧ Ch S S1 := by
  have hwc := W.wb.fewc
  have hf := W.wb.few
  have hwid := W.wid
  obtain ⟨h, S1, e1, l1, w1⟩ := pull0 hw 5 (by omega) (by omega)
  replace e1 : F__law_pull_v1 [.ref 1, .int 5] S = .ok (.int h) S1 := e1
  obtain ⟨n, hn⟩ : ∃ n, S1.length = n := ⟨_, rfl⟩
  let sh := fun (x y z : Option T) => [some (T.ref 1), some (eB b), some (T.int (h : Nat)), some (T.ref n), x, y, z]
  -- one row
  have hrow : ∀ (q : List Str), q ∈ b → ∀ (acc : List T) (S2 : Sto) (z : Option T), Ch S1 S2 → ∃ P S3 z', forL none (q.map T.str) (gN 6) L__law_setting_v1_0 (q.map T.str) (sh (some (eR q)) (some (.str "")) z) (S2 ++ [.lst acc]) = .nx (sh (some (eR q)) (some (.str P)) z') (S3 ++ [.lst acc]) ∧ Fq q P ∧ Ch S1 S3 := by
    intro q hq acc S2 z w2
    have hql : q.length = c := (W.wb.rect q hq).trans hwid
    obtain ⟨sl', S', q1, pre, P, S3, z', rfl, w3, rfl, hP, hpre, _⟩ := forL_inv (src := none) (all := q.map T.str) (g := gN 6) (b := L__law_setting_v1_0) T.str
      (fun xs sl St => ∃ (pre : List Str) (P : Str) (S3 : Sto) (z : Option T), St = S3 ++ [.lst acc] ∧ Ch S1 S3 ∧ sl = sh (some (eR q)) (some (.str P)) z ∧ Fq pre P ∧ pre ++ xs = q ∧ ∀ k ∈ xs, k ∈ KS) (fun _ _ _ _ => trivial) (by
        rintro k xs sl St ⟨pre, P, S3, z, rfl, w3, rfl, hF, hpre, hk⟩
        have hP : P.length + (xs.length + 1) = c := by
          have := congrArg List.length hpre
          rw [List.length_append, List.length_cons] at this
          have := hF.1
          omega
        have hpre2 : (pre ++ [k]) ++ xs = q := by rw [List.append_assoc]; exact hpre
        have hk0 := hk k List.mem_cons_self
        have hkl := KS_len k hk0
        by_cases h0 : k = ""
        · obtain ⟨a1, a2⟩ := cat1 (P := P) (c := 35) (S := S3 ++ [.lst acc]) (by omega)
          refine ⟨_, _, sh (some (eR q)) (some (.str (P ++ (⟨#[35]⟩ : Str)))) (some (.str k)), S3 ++ [.lst acc], gN_eq _, .inl ?_, pre ++ [k], _, S3, _, rfl, w3, rfl, hF.snoc (by rw [h0]; exact fitc_wall), hpre2, fun j hj => hk j (List.mem_cons_of_mem _ hj)⟩
          simp only [L__law_setting_v1_0, dIf_eq, dTest_eq, dBin_eq, dVar_eq, sh, List.getElem?_cons_zero, List.getElem?_cons_succ, List.set_cons_zero, List.set_cons_succ, varR_some, RE.bind_ok, dC_eq, fz_str, fEq_str, RE.toB_ok, RB.toS_ok, h0, ch35, dSet_eq, a1]
          simp [a1]
        · have hpos : 0 < k.length := by
            rw [← len_tl]
            exact List.length_pos_iff.mpr fun z => h0 (ne_tl.mpr z)
          have hlen : k.length ≤ 16777216 := by omega
          by_cases h3 : h < 3
          · obtain ⟨i, S4, e4, l4, w4⟩ := pull_nat w3.w [.lst acc] k.length hpos (by omega)
            have f4 := fIx_str (S := S4 ++ [.lst acc]) hlen l4
            obtain ⟨a1, a2⟩ := cat1 (P := P) (c := (tl k)[i]?.getD 0) (S := S4 ++ [.lst acc]) (by omega)
            refine ⟨_, _, sh (some (eR q)) (some (.str (P ++ (⟨#[(tl k)[i]?.getD 0]⟩ : Str)))) (some (.str k)), S4 ++ [.lst acc], gN_eq _, .inl ?_, pre ++ [k], _, S4, _, rfl, w3.trans w4, rfl, hF.snoc (fitc_in h0 (tl_mem l4)), hpre2, fun j hj => hk j (List.mem_cons_of_mem _ hj)⟩
            have h3' : ((h : Nat) : Int) < 3 := by omega
            simp only [L__law_setting_v1_0, sh, List.set_cons_zero, List.set_cons_succ]
            simp [h0, h3, hlen, e4, f4, a1, -fAdd_str]
            intro hh
            omega
          · obtain ⟨cc, hcm, hcc⟩ : ∃ cc, cc ∈ tl k ∧ (dIfE (dTest (dBin (fEq false) (dVar 2) (dC (.int 3)))) (dBin fIx (dVar 6) (dC (.int 0))) (dBin fIx (dVar 6) (dUn fNeg (dC (.int 1))))) (sh (some (eR q)) (some (.str P)) (some (.str k))) (S3 ++ [.lst acc]) = .ok (ch cc) (S3 ++ [.lst acc]) := by
              by_cases h4 : h = 3
              · exact ⟨_, tl_mem hpos, by simp [sh, h4]; exact fIx_str0 hlen hpos⟩
              · obtain ⟨c0, hcm0, hc0⟩ := fIx_strm1 (S := S3 ++ [.lst acc]) hlen hpos
                have h4' : ¬ ((h : Nat) : Int) = 3 := by omega
                exact ⟨c0, hcm0, by simp [sh, h4', h4, hc0]⟩
            obtain ⟨a1, a2⟩ := cat1 (P := P) (c := cc) (S := S3 ++ [.lst acc]) (by omega)
            refine ⟨_, _, sh (some (eR q)) (some (.str (P ++ (⟨#[cc]⟩ : Str)))) (some (.str k)), S3 ++ [.lst acc], gN_eq _, .inl ?_, pre ++ [k], _, S3, _, rfl, w3, rfl, hF.snoc (fitc_in h0 hcm), hpre2, fun j hj => hk j (List.mem_cons_of_mem _ hj)⟩
            have h3' : ¬ ((h : Nat) : Int) < 3 := by omega
            simp only [sh] at hcc
            unfold L__law_setting_v1_0
            simp only [dIf_eq, dTest_eq, dBin_eq, dVar_eq, sh, List.getElem?_cons_zero, List.getElem?_cons_succ, List.set_cons_zero, List.set_cons_succ, varR_some, RE.bind_ok, dC_eq, fz_str, fz_int, fEq_str, RE.toB_ok, RB.toS_ok, dSet_eq]
            have d0 : decide (k = "") = false := decide_eq_false h0
            simp only [d0, if_false, Bool.false_eq_true]
            rw [show (fLT (.int (h : Nat)) (.int 3) (S3 ++ [.lst acc])) = .ok (.bl false) (S3 ++ [.lst acc]) by simp; omega]
            simp only [RE.toB_ok, RB.toS_ok, if_false, Bool.false_eq_true]
            rw [hcc]
            simp [a1, -fAdd_str])
      q (sh (some (eR q)) (some (.str "")) z) (S2 ++ [.lst acc]) ⟨[], "", S2, z, rfl, w2, rfl, Fq.nil, rfl, W.ks q hq⟩
    rw [List.append_nil] at hpre
    exact ⟨P, S3, z', q1, by rw [← hpre]; exact hP, w3⟩
  obtain ⟨sl', S', q1, pb, st, S3, x', y', z', rfl, w3, rfl, hst, hsw, hpb⟩ := forL_inv (src := none) (all := b.map eR) (g := gN 4) (b := L__law_setting_v1_1) eR
    (fun xs sl St => ∃ (pb : Brd) (st : List Str) (S3 : Sto) (x y z : Option T), St = S3 ++ [.lst (st.map T.str)] ∧ Ch S1 S3 ∧ sl = sh x y z ∧ st.length = pb.length ∧ (∀ i, i < pb.length → Fq (row pb i) (srow st i)) ∧ pb ++ xs = b) (fun _ _ _ _ => trivial) (by
      rintro q xs sl St ⟨pb, st, S3, x, y, z, rfl, w3, rfl, hst, hsw, hpb⟩
      have hlp := congrArg List.length hpb
      rw [List.length_append, List.length_cons] at hlp
      have hqb : q ∈ b := by rw [← hpb]; simp
      obtain ⟨P, S4, z', q2, hP, w4⟩ := hrow q hqb (st.map T.str) S3 z w3
      have l4 : S4.length = n := w4.len.trans hn
      have g4 : (S4 ++ [MO.lst (st.map T.str)])[n]? = some (.lst (st.map T.str)) := by rw [← l4]; exact top_get
      have s4 : List.set (S4 ++ [MO.lst (st.map T.str)]) n (MO.lst (st.map T.str ++ [T.str P])) = S4 ++ [.lst ((st ++ [P]).map T.str)] := by rw [← l4, List.map_append]; exact top_set
      have hz : st.length < 16777216 := by omega
      refine ⟨_, _, sh (some (eR q)) (some (.str P)) z', S4 ++ [.lst ((st ++ [P]).map T.str)], gN_eq _, .inl ?_, pb ++ [q], st ++ [P], S4, _, _, _, rfl, w4, rfl, by simp [hst], fun i hi => ?_, by rw [List.append_assoc]; exact hpb⟩
      · have hf2 := dFor_eq (dIt (dVar 4)) (gN 6) L__law_setting_v1_0 (sh (some (eR q)) (some (.str "")) z) (S3 ++ [.lst (st.map T.str)]) (dIt_eq (S1 := S3 ++ [.lst (st.map T.str)]) (t := eR q) (by simp [sh]) rfl)
        simp only [sh] at hf2 q2
        simp [L__law_setting_v1_1, sh]
        rw [hf2.trans q2]
        simp [mTy_ref g4, fAppend_ref g4, hz, s4]
      · unfold row srow
        by_cases hi' : i < pb.length
        · rw [List.getElem?_append_left hi', List.getElem?_append_left (by omega)]
          exact hsw i hi'
        · have ei : i = pb.length := by simp at hi; omega
          rw [List.getElem?_append_right (by omega), List.getElem?_append_right (by omega), hst, ei]
          simpa using hP)
    b (sh none none none) (S1 ++ [.lst []]) ⟨[], [], S1, _, _, _, rfl, .refl w1.w, rfl, rfl, fun i hi => by simp at hi, rfl⟩
  rw [List.append_nil] at hpb
  rw [hpb] at hst hsw
  have w13 := w1.trans w3
  have l3 : S3.length = n := w3.len.trans hn
  have g3 : (S3 ++ [MO.lst (st.map T.str)])[n]? = some (.lst (st.map T.str)) := by rw [← l3]; exact top_get
  have hsw' : ∀ s ∈ st, s.length = c := fun s hs => by
    obtain ⟨i, hi, rfl⟩ := List.mem_iff_getElem.mp hs
    have h1 := (hsw i (by omega)).1
    unfold srow at h1
    rw [List.getElem?_eq_getElem hi] at h1
    have h2 := len_row W.wb (r := i) (by omega)
    exact h1.trans (h2.trans hwid)
  refine ⟨st, S3, ?_, ⟨hst.trans W.len, hsw'⟩, fun i hi j hj => (hsw i hi).2 j (by rw [len_row W.wb hi]; exact hj), w13⟩
  have hf2 := dFor_eq (dIt (dVar 1)) (gN 4) L__law_setting_v1_1 (sh none none none) (S1 ++ [.lst []]) (dIt_eq (S1 := S1 ++ [.lst []]) (t := eB b) (by simp [sh]) rfl)
  simp only [F__law_setting_v1, dFun_eq (np := 2) (n := 7) (ts := [.ref 1, eB b]) rfl, b__law_setting_v1]
  simp only [sh] at hf2 q1
  simp [e1, hn]
  rw [hf2.trans q1]
  simp [fTuple_ref g3]
  rw [w13.gcA _ (by simp [lts_strs])]
  rfl
end Bd

/-! settings bent: what they are made of -/
namespace Bd
open PySem PySem.Spec L2 Dn Pk
def Wg (t : T) : Prop := Wv t ∧ t.lt 0 = true
theorem Wg.str {z : Str} (h : z.length ≤ 1000) : Wg (.str z) := ⟨⟨rfl, fun y e => by cases e; exact h⟩, rfl⟩
theorem Wg.any {t : T} (h : Od t = true) (h2 : t.lt 0 = true) (h3 : ∀ z, t ≠ .str z) : Wg t := ⟨⟨h, fun y e => absurd e (h3 y)⟩, h2⟩
theorem lts_of {rs : List T} (h : ∀ r ∈ rs, r.lt 0 = true) : T.lts 0 rs = true := by
  rw [T.lts_all, List.all_eq_true]
  exact h
theorem Gv.tup {rs : List T} (hl : rs.length ≤ 1000) (h : ∀ r ∈ rs, Wg r) : Gv (.tup rs) :=
  ⟨⟨rfl, lts_of fun r hr => (h r hr).2⟩, fun us e => by cases e; exact ⟨hl, fun r hr => (h r hr).1⟩⟩
theorem Gv.any {t : T} (h : Od t = true) (h2 : t.lt 0 = true) (h3 : ∀ rs, t ≠ .tup rs) : Gv t := ⟨⟨h, h2⟩, fun y e => absurd e (h3 y)⟩
theorem Gv.mem {rs : List T} (h : Gv (.tup rs)) : rs.length ≤ 1000 ∧ ∀ r ∈ rs, Wg r := by
  obtain ⟨⟨_, h2⟩, h3⟩ := h
  have h2' : T.lts 0 rs = true := h2
  rw [T.lts_all, List.all_eq_true] at h2'
  exact ⟨(h3 rs rfl).1, fun r hr => ⟨(h3 rs rfl).2 r hr, h2' r hr⟩⟩
theorem lt_signs (z : Str) : T.lts 0 (signs z) = true := lts_of fun r hr => by
  unfold signs at hr
  obtain ⟨c, _, rfl⟩ := List.mem_map.mp hr
  rfl
theorem cutT_from1 {α : Type} {xs : List α} {n : Nat} : cutT xs (some ((n : Int) + 1)) none = xs.drop (n + 1) := by
  have := cutT_from (xs := xs) (n := n + 1)
  simpa using this
theorem cut_len {z : Str} {lo hi : Option Int} : (cutS z lo hi).length ≤ z.length := cutS_length z lo hi
theorem cat_len {a b : Str} : (a ++ b).length = a.length + b.length := by
  show (a.cps ++ b.cps).size = _
  simp
  rfl
theorem Gv.swap {rs : List T} (h : Gv (.tup rs)) {t : T} (ht : Wg t) (a : Nat) (hl : rs.length ≤ 900) : Gv (.tup (rs.take a ++ (t :: rs.drop (a + 1)))) := by
  obtain ⟨_, h2⟩ := h.mem
  refine Gv.tup (by simp; omega) fun r hr => ?_
  rcases List.mem_append.mp hr with e | e
  · exact h2 r (List.mem_of_mem_take e)
  · rcases List.mem_cons.mp e with e | e
    · rw [e]; exact ht
    · exact h2 r (List.mem_of_mem_drop e)
section
variable {b : Brd} {st : List Str} {r c : Nat} {S : Sto} (W : KB b r c) (V : SB st r c)
include W V
theorem eR_good : Gv (eR st) := by
  obtain ⟨p1, p2, p3, p4⟩ := W.pos
  refine Gv.tup (by rw [List.length_map, V.len]; omega) fun t ht => ?_
  obtain ⟨z, hz, rfl⟩ := List.mem_map.mp ht
  exact Wg.str (by rw [V.wid z hz]; omega)
theorem st_ixr {i : Nat} (hi : i < r) : fIx (eR st) (.int i) S = .ok (.str (srow st i)) S := st_ix W V (by rw [W.len]; exact hi)
theorem srow_lenr {i : Nat} (hi : i < r) : (srow st i).length = c := srow_len W V (by rw [W.len]; exact hi)
end
def bentL (w A B C : Str) : List T := [.str A, .str B, .str C, .str "", .non, .bl true, .int 0, .tup [.str w], .lst (signs w), .tup (signs w), .int (10 ^ 59)]
theorem bentL_good {w A B C : Str} (hw : w.length ≤ 500) (hA : A.length ≤ 1000) (hB : B.length ≤ 1000) (hC : C.length ≤ 1000) : ∀ t ∈ bentL w A B C, Wg t := by
  intro t ht
  simp only [bentL, List.mem_cons, List.not_mem_nil, or_false] at ht
  rcases ht with rfl | rfl | rfl | rfl | rfl | rfl | rfl | rfl | rfl | rfl | rfl
  · exact Wg.str hA
  · exact Wg.str hB
  · exact Wg.str hC
  · exact Wg.str (by decide)
  · exact Wg.any rfl rfl (by intro z; simp)
  · exact Wg.any rfl rfl (by intro z; simp)
  · exact Wg.any rfl rfl (by intro z; simp)
  · exact Wg.any rfl rfl (by intro z; simp)
  · exact Wg.any rfl (lt_signs w) (by intro z; simp)
  · exact Wg.any rfl (lt_signs w) (by intro z; simp)
  · exact Wg.any rfl rfl (by intro z; simp)
theorem bent_ok {b : Brd} {st : List Str} {r c : Nat} {S : Sto} (W : KB b r c) (V : SB st r c) (hw : Cw S) : ∃ t S1, F__law_bent [.ref 1, eR st] S = .ok t S1 ∧ Gv t ∧ (∀ rs, t = .tup rs → rs.length ≤ 300) ∧ Ch S S1 := by
  obtain ⟨p1, p2, p3, p4⟩ := W.pos
  obtain ⟨a0, S1, e1, l1, w1⟩ := pull0 hw r p1 (by omega)
  obtain ⟨m, S2, e2, l2, w2⟩ := pull0 w1.w 3 (by omega) (by omega)
  replace e2 : F__law_pull_v1 [.ref 1, .int 3] S1 = .ok (.int m) S2 := e2
  have hG := eR_good W V
  let sh := fun (x2 x3 x4 x5 x6 x7 : Option T) => [some (T.ref 1), some (eR st), x2, x3, x4, x5, x6, x7]
  have hlen : st.length = r := V.len
  have hl16 : st.length ≤ 16777216 := by omega
  obtain ⟨a, ha, hs1⟩ : ∃ a : Nat, a < r ∧ ∀ k : DS, (dSeq (dSet 2 (dOwn 2 F__law_pull_v1 (dCons (dVar 0) (dCons (dCall fLen (dCons (dVar 1) dNil)) dNil))))
      (dSeq (dIf (dTest (dBin (fEq false) (dOwn 2 F__law_pull_v1 (dCons (dVar 0) (dCons (dC (.int 3)) dNil))) (dC (.int 0))))
      (dSet 2 (dBin (fInt (fun _ _ => True) (· - ·)) (dCall fLen (dCons (dVar 1) dNil)) (dC (.int 1))))
      dNext) k)) (sh none none none none none none) S = k (sh (some (.int a)) none none none none none) S2 := by
    by_cases hm : m = 0
    · refine ⟨r - 1, by omega, fun k => ?_⟩
      have : ((r - 1 : Nat) : Int) = (r : Int) - 1 := by omega
      rw [this]
      simp [sh, eR, hlen, hl16, e1, e2, hm]
      try omega
    · exact ⟨a0, l1, fun k => by simp [sh, eR, hlen, hl16, e1, e2, hm]; try omega⟩
  have w12 := w1.trans w2
  have hwl := srow_lenr W V ha
  have hix := fun S => st_ixr (S := S) W V ha
  have ctk : cutT (st.map T.str) none (some (a : Int)) = (st.map T.str).take a := cutT_to
  have cfr : cutT (st.map T.str) (some ((a : Int) + 1)) none = (st.map T.str).drop (a + 1) := cutT_from1
  have hes : ∀ (u : T), (st.map T.str).take a ++ (u :: (st.map T.str).drop (a + 1)) = (st.map T.str).take a ++ (u :: (st.map T.str).drop (a + 1)) := fun _ => rfl
  obtain ⟨pl, S3, e3, l3, w3⟩ := pull0 w2.w c p2 (by omega)
  obtain ⟨i4, t4, S4, e4, l4, w4⟩ := from_tup w3.w [] ([("d" : Str), "s", "u", "#", "x", " ", "D", "."].map T.str) (by decide) (by decide) (lts_strs _ _)
  obtain ⟨sg4, rfl, lsg⟩ : ∃ z : Str, t4 = .str z ∧ z.length ≤ 1 := by
    rw [List.getElem?_map] at l4
    cases e : [("d" : Str), "s", "u", "#", "x", " ", "D", "."][i4]? with
    | none => rw [e] at l4; cases l4
    | some z =>
      rw [e] at l4; cases l4
      have hm := List.mem_of_getElem? e
      have key : ∀ z ∈ [("d" : Str), "s", "u", "#", "x", " ", "D", "."], z.length ≤ 1 := by decide
      exact ⟨z, rfl, key z hm⟩
  rw [List.append_nil, List.append_nil] at e4
  replace e4 : F__law_from_v1 [.ref 1, .tup [.str "d", .str "s", .str "u", .str "#", .str "x", .str " ", .str "D", .str "."]] S3 = .ok (.str sg4) S4 := e4
  obtain ⟨way, S5, e5, l5, w5⟩ := pull0 w4.w 24 (by omega) (by omega)
  replace e5 : F__law_pull_v1 [.ref 1, .int 24] S4 = .ok (.int way) S5 := e5
  have w15 := ((w12.trans w3).trans w4).trans w5
  generalize hw3 : srow st a = wd3 at *
  obtain ⟨A, hA, hA1⟩ : ∃ A : Str, A.length ≤ 1000 ∧ cutS wd3 none (some (pl : Int)) ++ sg4 ++ cutS wd3 (some ((pl : Int) + 1)) none = A := ⟨_, by
    rw [cat_len, cat_len]
    have := cut_len (z := wd3) (lo := none) (hi := some (pl : Int))
    have := cut_len (z := wd3) (lo := some ((pl : Int) + 1)) (hi := none)
    omega, rfl⟩
  obtain ⟨C, hC, hC1⟩ : ∃ A : Str, A.length ≤ 1000 ∧ cutS wd3 none (some (pl : Int)) ++ cutS wd3 (some ((pl : Int) + 1)) none = A := ⟨_, by
    rw [cat_len]
    have := cut_len (z := wd3) (lo := none) (hi := some (pl : Int))
    have := cut_len (z := wd3) (lo := some ((pl : Int) + 1)) (hi := none)
    omega, rfl⟩
  have hB : (wd3 ++ sg4).length ≤ 1000 := by rw [cat_len]; omega
  have z1 : (cutS wd3 none (some (pl : Int))).length ≤ 1000 := Nat.le_trans cut_len (by omega)
  have z2 : (cutS wd3 (some ((pl : Int) + 1)) none).length ≤ 1000 := Nat.le_trans cut_len (by omega)
  have z3 : (cutS wd3 none (some (pl : Int)) ++ sg4).length ≤ 1000 := by rw [cat_len]; have := cut_len (z := wd3) (lo := none) (hi := some (pl : Int)); omega
  have hgood := bentL_good (w := wd3) (A := A) (B := wd3 ++ sg4) (C := C) (by omega) hA hB hC
  have hL : (bentL wd3 A (wd3 ++ sg4) C).length = 11 := rfl
  have hrow6 : ∀ (x6 x7 : Option T), dSet 6 (dTup (dCons (dBin fAdd (dBin fAdd (dSl (dVar 3) dNoPart (dPart (dVar 4))) (dVar 5)) (dSl (dVar 3) (dPart (dBin fAdd (dVar 4) (dC (.int 1)))) dNoPart)) (dCons (dBin fAdd (dVar 3) (dVar 5)) (dCons (dBin fAdd (dSl (dVar 3) dNoPart (dPart (dVar 4))) (dSl (dVar 3) (dPart (dBin fAdd (dVar 4) (dC (.int 1)))) dNoPart)) (dCons (dC (.str "")) (dCons (dC .non) (dCons (dC (.bl true)) (dCons (dC (.int 0)) (dCons (dTup (dCons (dVar 3) dNil)) (dCons (dCall fList (dCons (dVar 3) dNil)) (dCons (dCall fTuple (dCons (dVar 3) dNil)) (dCons (dBin (fInt CPow fun i j => i ^ j.toNat) (dC (.int 10)) (dC (.int 59))) dNil))))))))))))
      (sh (some (.int a)) (some (.str wd3)) (some (.int pl)) (some (.str sg4)) x6 x7) S4 = .nx (sh (some (.int a)) (some (.str wd3)) (some (.int pl)) (some (.str sg4)) (some (.tup (bentL wd3 A (wd3 ++ sg4) C))) x7) S4 := fun x6 x7 => by
    have cp : CPow 10 59 := by simp [CPow]
    have y0 : wd3.length ≤ 16777216 := by omega
    have y1 : (cutS wd3 none (some (pl : Int))).length + sg4.length ≤ 16777216 := by omega
    have y2 : (cutS wd3 none (some (pl : Int)) ++ sg4).length + (cutS wd3 (some ((pl : Int) + 1)) none).length ≤ 16777216 := by omega
    have y3 : wd3.length + sg4.length ≤ 16777216 := by omega
    have y4 : (cutS wd3 none (some (pl : Int))).length + (cutS wd3 (some ((pl : Int) + 1)) none).length ≤ 16777216 := by omega
    simp [sh, bentL, cp, y0, y1, y2, y3, y4, hA1, hC1]
  generalize bentL wd3 A (wd3 ++ sg4) C = L at hgood hL hrow6
  have y0 : wd3.length ≤ 16777216 := by omega
  have hc16 : c ≤ 16777216 := by omega
  have h3 : dSet 3 (dBin fIx (dVar 1) (dVar 2)) (sh (some (.int a)) none none none none none) S2 = .nx (sh (some (.int a)) (some (.str wd3)) none none none none) S2 := by simp [sh, hix]
  have h4 : dSet 4 (dOwn 2 F__law_pull_v1 (dCons (dVar 0) (dCons (dCall fLen (dCons (dVar 3) dNil)) dNil))) (sh (some (.int a)) (some (.str wd3)) none none none none) S2 = .nx (sh (some (.int a)) (some (.str wd3)) (some (.int pl)) none none none) S3 := by simp [sh, hc16, hwl, e3]
  have h5 : dSet 5 (dOwn 2 F__law_from_v1 (dCons (dVar 0) (dCons (dTup (dCons (dC (.str "d")) (dCons (dC (.str "s")) (dCons (dC (.str "u")) (dCons (dC (.str "#")) (dCons (dC (.str "x")) (dCons (dC (.str " ")) (dCons (dC (.str "D")) (dCons (dC (.str ".")) dNil))))))))) dNil))) (sh (some (.int a)) (some (.str wd3)) (some (.int pl)) none none none) S3 = .nx (sh (some (.int a)) (some (.str wd3)) (some (.int pl)) (some (.str sg4)) none none) S4 := by simp [sh, e4]
  have h7 : dSet 7 (dOwn 2 F__law_pull_v1 (dCons (dVar 0) (dCons (dC (.int 24)) dNil))) (sh (some (.int a)) (some (.str wd3)) (some (.int pl)) (some (.str sg4)) (some (.tup L)) none) S4 = .nx (sh (some (.int a)) (some (.str wd3)) (some (.int pl)) (some (.str sg4)) (some (.tup L)) (some (.int way))) S5 := by simp [sh, e5]
  have hb : ∀ k : DS, F__law_bent [.ref 1, eR st] S = gcR S (((dSeq (dIf (dTest (dBin fLT (dVar 7) (dC (.int 8))))
      (dRet (dBin fAdd (dBin fAdd (dSl (dVar 1) dNoPart (dPart (dVar 2))) (dTup (dCons (dBin fIx (dVar 6) (dC (.int 0))) dNil))) (dSl (dVar 1) (dPart (dBin fAdd (dVar 2) (dC (.int 1)))) dNoPart)))
      dNext)
      (dSeq (dIf (dTest (dBin fLT (dVar 7) (dC (.int 18))))
      (dRet (dBin fAdd (dBin fAdd (dSl (dVar 1) dNoPart (dPart (dVar 2))) (dTup (dCons (dBin fIx (dVar 6) (dBin (fInt (fun _ _ => True) (· - ·)) (dVar 7) (dC (.int 7)))) dNil))) (dSl (dVar 1) (dPart (dBin fAdd (dVar 2) (dC (.int 1)))) dNoPart)))
      dNext)
      (dRet (dBin fIx (dTup (dCons (dCall fList (dCons (dVar 1) dNil)) (dCons (dSl (dVar 1) (dPart (dC (.int 1))) dNoPart) (dCons (dBin fAdd (dVar 1) (dSl (dVar 1) dNoPart (dPart (dC (.int 1))))) (dCons (dTup (dCons (dVar 1) dNil)) (dCons (dUn fRev (dVar 1)) (dCons (dMeth "str" fJoin (dC (.str "")) (dCons (dVar 1) dNil)) dNil))))))) (dBin (fInt (fun _ _ => True) (· - ·)) (dVar 7) (dC (.int 18)))))))
      (sh (some (.int a)) (some (.str wd3)) (some (.int pl)) (some (.str sg4)) (some (.tup L)) (some (.int way))) S5)) := fun k => by
    unfold F__law_bent
    rw [dFun_eq (np := 2) (n := 8) (ts := [.ref 1, eR st]) rfl]
    show gcR S (b__law_bent (sh none none none none none none) S) = _
    unfold b__law_bent
    rw [hs1, dSeq_eq, h3, RS.seq_nx, dSeq_eq, h4, RS.seq_nx, dSeq_eq, h5, RS.seq_nx, dSeq_eq, hrow6, RS.seq_nx, dSeq_eq, h7, RS.seq_nx]
  rw [hb dNext]
  have hlm : (st.map T.str).length = r := by rw [List.length_map]; exact hlen
  have fin : ∀ t : T, (sh (some (.int a)) (some (.str wd3)) (some (.int pl)) (some (.str sg4)) (some (.tup L)) (some (.int way))) = (sh (some (.int a)) (some (.str wd3)) (some (.int pl)) (some (.str sg4)) (some (.tup L)) (some (.int way))) → t.lt 0 = true → gcR S (.rt t S5) = .ok t S5 := fun t _ ht => by
    rw [gcR_rt, w15.gcT (T.lt_mono (Nat.zero_le _) ht)]
  have swap : ∀ t, Wg t → Gv (.tup ((st.map T.str).take a ++ (t :: (st.map T.str).drop (a + 1)))) := fun t ht => Gv.swap (rs := st.map T.str) hG ht a (by rw [hlm]; omega)
  have swl : ∀ t : T, ((st.map T.str).take a ++ (t :: (st.map T.str).drop (a + 1))).length ≤ 300 := fun t => by simp; omega
  have hsw : ∀ (de : DE) (u : T), de (sh (some (.int a)) (some (.str wd3)) (some (.int pl)) (some (.str sg4)) (some (.tup L)) (some (.int way))) S5 = .ok u S5 → fz u = u →
      (dBin fAdd (dBin fAdd (dSl (dVar 1) dNoPart (dPart (dVar 2))) (dTup (dCons de dNil))) (dSl (dVar 1) (dPart (dBin fAdd (dVar 2) (dC (.int 1)))) dNoPart)) (sh (some (.int a)) (some (.str wd3)) (some (.int pl)) (some (.str sg4)) (some (.tup L)) (some (.int way))) S5 = .ok (.tup ((st.map T.str).take a ++ (u :: (st.map T.str).drop (a + 1)))) S5 := fun de u hde hu => by
    have y1 : ((st.map T.str).take a).length + [u].length ≤ sizeLine := by rw [PySem.sizeLine_eq]; simp; omega
    have y2 : ((st.map T.str).take a ++ [u]).length + ((st.map T.str).drop (a + 1)).length ≤ sizeLine := by rw [PySem.sizeLine_eq]; simp; omega
    generalize (st.map T.str).take a = P at *
    generalize (st.map T.str).drop (a + 1) = Q at *
    simp only [sh, eR] at hde ⊢
    simp only [dBin_eq, dSl_eq, dVar_eq, List.getElem?_cons_zero, List.getElem?_cons_succ, varR_some, RE.bind_ok, dNoPart_eq, dPart_eq, RE.part_int, RO.bindE_ok, fz_tup, fz_int, fSl_tup, ctk, dTup_eq, dCons_eq, dNil_eq, hde, RE.consA_ok, RA.cons_ok, hu, RA.bind_ok]
    rw [if_pos (show [u].length ≤ sizeLine by rw [PySem.sizeLine_eq]; simp), RE.bind_ok, fz_tup, fAdd_tup, if_pos y1]
    simp only [RE.bind_ok, fz_tup, dC_eq, fz_int, fAdd_int, RE.part_int, RO.bindE_ok, fSl_tup, cfr]
    rw [fAdd_tup, if_pos y2]
    simp
  by_cases q1 : way < 8
  · have g0 : L[0]? = some L[0] := List.getElem?_eq_getElem (by omega)
    have hg := hgood L[0] (List.getElem_mem _)
    generalize L[0] = u at g0 hg
    have fu := hg.1.fz
    refine ⟨_, S5, ?_, swap u hg, fun rs e => by cases e; exact swl u, w15⟩
    have q1' : ((way : Nat) : Int) < 8 := by omega
    have := hsw (dBin fIx (dVar 6) (dC (.int 0))) u (by simp [sh, g0, fu]) fu
    rw [dSeq_eq, dIf_eq, show dTest (dBin fLT (dVar 7) (dC (.int 8))) (sh (some (.int a)) (some (.str wd3)) (some (.int pl)) (some (.str sg4)) (some (.tup L)) (some (.int way))) S5 = .ok true S5 by simp [sh, q1, q1'], RB.toS_ok, if_pos rfl, dRet_eq, this]
    exact fin _ rfl ((swap u hg).1.2)
  · have q1' : ¬ ((way : Nat) : Int) < 8 := by omega
    rw [dSeq_eq, dIf_eq, show dTest (dBin fLT (dVar 7) (dC (.int 8))) (sh (some (.int a)) (some (.str wd3)) (some (.int pl)) (some (.str sg4)) (some (.tup L)) (some (.int way))) S5 = .ok false S5 by simp [sh, q1, q1'], RB.toS_ok, if_neg (by simp), dNext_eq, RS.seq_nx]
    by_cases q2 : way < 18
    · have q2' : ((way : Nat) : Int) < 18 := by omega
      have g0 : L[way - 7]? = some L[way - 7] := List.getElem?_eq_getElem (by omega)
      have hg := hgood L[way - 7] (List.getElem_mem _)
      generalize L[way - 7] = u at g0 hg
      have fu := hg.1.fz
      refine ⟨_, S5, ?_, swap u hg, fun rs e => by cases e; exact swl u, w15⟩
      have e7 : ((way : Nat) : Int) - 7 = ((way - 7 : Nat) : Int) := by omega
      have := hsw (dBin fIx (dVar 6) (dBin (fInt (fun _ _ => True) (· - ·)) (dVar 7) (dC (.int 7)))) u (by simp [sh, e7, atI_n, g0, fu]) fu
      rw [dSeq_eq, dIf_eq, show dTest (dBin fLT (dVar 7) (dC (.int 18))) (sh (some (.int a)) (some (.str wd3)) (some (.int pl)) (some (.str sg4)) (some (.tup L)) (some (.int way))) S5 = .ok true S5 by simp [sh, q2, q2'], RB.toS_ok, if_pos rfl, dRet_eq, this]
      exact fin _ rfl ((swap u hg).1.2)
    · have q2' : ¬ ((way : Nat) : Int) < 18 := by omega
      rw [dSeq_eq, dIf_eq, show dTest (dBin fLT (dVar 7) (dC (.int 18))) (sh (some (.int a)) (some (.str wd3)) (some (.int pl)) (some (.str sg4)) (some (.tup L)) (some (.int way))) S5 = .ok false S5 by simp [sh, q2, q2'], RB.toS_ok, if_neg (by simp), dNext_eq, RS.seq_nx]
      have hmem := hG.mem.2
      obtain ⟨J, hJ⟩ : ∃ J : Str, J = Sx (st.flatMap tl) := ⟨_, rfl⟩
      have hsum : (st.map (·.length)).sum ≤ 16777216 := by
        have : ∀ l : List Str, (∀ s ∈ l, s.length = c) → (l.map (·.length)).sum = l.length * c := by
          intro l
          induction l with
          | nil => intro _; simp
          | cons s l ih =>
            intro h
            rw [List.map_cons, List.sum_cons, ih fun s hs => h s (List.mem_cons_of_mem _ hs), h s List.mem_cons_self, List.length_cons, Nat.succ_mul, Nat.add_comm]
        rw [this st V.wid, hlen]
        have := Nat.mul_le_mul p3 p4
        omega
      have hj : fJoin (.str "") [.tup (st.map T.str)] S5 = .ok (.str J) S5 := by rw [hJ]; exact fJoin0 rfl hsum
      have c1 : cutT (st.map T.str) (some (1 : Int)) none = (st.map T.str).tail := (cutT_from (n := 1)).trans (by simp)
      have c2 : cutT (st.map T.str) none (some (1 : Int)) = (st.map T.str).take 1 := cutT_to (n := 1)
      have e18 : ((way : Nat) : Int) - 18 = ((way - 18 : Nat) : Int) := by omega
      have y1 : st.length + min 1 st.length ≤ 16777216 := by omega
      let LL : List T := [.lst (st.map T.str), .tup ((st.map T.str).tail), .tup (st.map T.str ++ (st.map T.str).take 1), .tup [.tup (st.map T.str)], .tup (st.map T.str).reverse, .str J]
      have hLL : ∀ t ∈ LL, Gv t ∧ (∀ rs, t = .tup rs → rs.length ≤ 300) ∧ fz t = t := by
        intro t ht
        simp only [LL, List.mem_cons, List.not_mem_nil, or_false] at ht
        rcases ht with rfl | rfl | rfl | rfl | rfl | rfl
        · exact ⟨Gv.any rfl (lts_of fun r hr => (hmem r hr).2) (by simp), by simp, rfl⟩
        · exact ⟨Gv.tup (by simp; omega) fun r hr => hmem r (List.mem_of_mem_tail hr), fun rs e => by cases e; simp; omega, rfl⟩
        · refine ⟨Gv.tup (by simp; omega) fun r hr => ?_, fun rs e => by cases e; simp; omega, rfl⟩
          rcases List.mem_append.mp hr with z | z
          · exact hmem r z
          · exact hmem r (List.mem_of_mem_take z)
        · refine ⟨Gv.tup (by simp) fun r hr => ?_, fun rs e => by cases e; simp, rfl⟩
          rw [List.mem_singleton.mp hr]
          exact Wg.any rfl (lts_of fun r hr => (hmem r hr).2) (by simp)
        · exact ⟨Gv.tup (by simp; omega) fun r hr => hmem r (List.mem_reverse.mp hr), fun rs e => by cases e; simp; omega, rfl⟩
        · exact ⟨Gv.any rfl rfl (by simp), by simp, rfl⟩
      have g0 : LL[way - 18]? = some (LL[way - 18]'(by show way - 18 < 6; omega)) := List.getElem?_eq_getElem (by show way - 18 < 6; omega)
      have hg := hLL _ (List.getElem_mem (l := LL) (n := way - 18) (by show way - 18 < 6; omega))
      generalize (LL[way - 18]'(by show way - 18 < 6; omega)) = u at g0 hg
      obtain ⟨hg1, hg2, fu⟩ := hg
      refine ⟨u, S5, ?_, hg1, hg2, w15⟩
      have ev : (dBin fIx (dTup (dCons (dCall fList (dCons (dVar 1) dNil)) (dCons (dSl (dVar 1) (dPart (dC (.int 1))) dNoPart) (dCons (dBin fAdd (dVar 1) (dSl (dVar 1) dNoPart (dPart (dC (.int 1))))) (dCons (dTup (dCons (dVar 1) dNil)) (dCons (dUn fRev (dVar 1)) (dCons (dMeth "str" fJoin (dC (.str "")) (dCons (dVar 1) dNil)) dNil))))))) (dBin (fInt (fun _ _ => True) (· - ·)) (dVar 7) (dC (.int 18)))) (sh (some (.int a)) (some (.str wd3)) (some (.int pl)) (some (.str sg4)) (some (.tup L)) (some (.int way))) S5 = .ok u S5 := by
        simp only [sh, eR]
        simp [c1, c2, y1, hj, e18]
        rw [atI_n]
        show ixR LL[way - 18]? S5 = _
        rw [g0]
        simp [fu]
      rw [dRet_eq, ev]
      exact fin _ rfl hg1.1.2
end Bd

/-! settings and things near them, judged -/
namespace Bd
open PySem PySem.Spec L2 Dn Pk
theorem from_strs {S : Sto} (hw : Cw S) (zs : List Str) (h0 : 0 < zs.length) (hn : zs.length ≤ 1000) : ∃ (z : Str) (S1 : Sto), F__law_from_v1 [.ref 1, .tup (zs.map T.str)] S = .ok (.str z) S1 ∧ z ∈ zs ∧ Ch S S1 := by
  obtain ⟨i, t, S1, e, l, w⟩ := from_tup hw [] (zs.map T.str) (by simpa using h0) (by simpa using hn) (lts_strs _ _)
  rw [List.append_nil, List.append_nil] at e
  rw [List.getElem?_map] at l
  cases q : zs[i]? with
  | none => rw [q] at l; cases l
  | some z => rw [q] at l; cases l; exact ⟨z, S1, e, List.mem_of_getElem? q, w⟩
theorem law_row_ok {z : Str} {c : Nat} {S : Sto} (hz : z.length = c) (h0 : 0 < c) (hc : c ≤ 100) (hw : Cw S) : ∃ t S1, F__law_row [.ref 1, .str z] S = .ok t S1 ∧ Wg t ∧ Ch S S1 := by
  obtain ⟨pl, S1, e1, l1, w1⟩ := pull0 hw c h0 (by omega)
  obtain ⟨s, S2, e2, l2, w2⟩ := from_strs w1.w [("d" : Str), "s", "u", "#"] (by decide) (by decide)
  replace e2 : F__law_from_v1 [.ref 1, .tup [.str "d", .str "s", .str "u", .str "#"]] S1 = .ok (.str s) S2 := e2
  have ls : s.length = 1 := by
    have : ∀ z ∈ [("d" : Str), "s", "u", "#"], z.length = 1 := by decide
    exact this s l2
  obtain ⟨m, S3, e3, l3, w3⟩ := pull0 w2.w 4 (by omega) (by omega)
  replace e3 : F__law_pull_v1 [.ref 1, .int 4] S2 = .ok (.int m) S3 := e3
  have w13 := (w1.trans w2).trans w3
  have k1 := cut_len (z := z) (lo := none) (hi := some (pl : Int))
  have k2 := cut_len (z := z) (lo := some ((pl : Int) + 1)) (hi := none)
  have y0 : z.length ≤ 16777216 := by omega
  have y1 : (cutS z none (some (pl : Int))).length + s.length ≤ 16777216 := by omega
  have y2 : (cutS z none (some (pl : Int)) ++ s).length + (cutS z (some ((pl : Int) + 1)) none).length ≤ 16777216 := by rw [cat_len]; omega
  have y3 : z.length + ("d" : Str).length ≤ 16777216 := by have : ("d" : Str).length = 1 := rfl; omega
  obtain ⟨A, hA, hA1⟩ : ∃ A : Str, A.length ≤ 1000 ∧ cutS z none (some (pl : Int)) ++ s ++ cutS z (some ((pl : Int) + 1)) none = A := ⟨_, by
    rw [cat_len, cat_len]
    omega, rfl⟩
  obtain ⟨B, hB, hB1⟩ : ∃ A : Str, A.length ≤ 1000 ∧ z ++ ("d" : Str) = A := ⟨_, by
    rw [cat_len, show ("d" : Str).length = 1 from rfl]
    omega, rfl⟩
  have lg3 : CDivW (m : Int) 3 := by
    have : (m : Int).natAbs.log2 < 9000 := Nat.lt_of_lt_of_le (PySem.Flt.log2_lt_of (k := 10) (by omega) (by omega)) (by omega)
    have : Nat.log2 3 < 9000 := by decide +kernel
    simp [CDivW]
    try omega
  obtain ⟨u, hu, hu2⟩ : ∃ u : Str, u.length ≤ 1000 ∧ ∀ S, fIx (.tup [.str A, .str B]) (.int ((m : Int) / 3)) S = .ok (.str u) S := by
    by_cases h3 : m = 3
    · subst h3
      exact ⟨B, hB, fun S => rfl⟩
    · have : ((m : Int) / 3) = 0 := by omega
      rw [this]
      exact ⟨A, hA, fun S => rfl⟩
  refine ⟨.str u, S3, ?_, Wg.str hu, w13⟩
  have hc16 : c ≤ 16777216 := by omega
  have i1 : dSet 2 (dOwn 2 F__law_pull_v1 (dCons (dVar 0) (dCons (dCall fLen (dCons (dVar 1) dNil)) dNil))) [some (.ref 1), some (.str z), none] S = .nx [some (.ref 1), some (.str z), some (.int pl)] S1 := by simp [hc16, hz, e1]
  unfold F__law_row
  rw [dFun_eq (np := 2) (n := 3) (ts := [.ref 1, .str z]) rfl]
  show gcR S (b__law_row [some (.ref 1), some (.str z), none] S) = _
  unfold b__law_row
  rw [dSeq_eq, i1, RS.seq_nx]
  simp only [dRet_eq, dBin_eq, dTup_eq, dCons_eq, dNil_eq, dSl_eq, dVar_eq, List.getElem?_cons_zero, List.getElem?_cons_succ, varR_some, RE.bind_ok, dNoPart_eq, dPart_eq, RE.part_int, RO.bindE_ok, fz_str, fz_int, fSl_str]
  simp [y0, y1, y2, y3, e2, e3, hA1, hB1]
  simp [lg3, hu2]
  rw [w13.gcT rfl]
theorem same1_bl {x : Bool} {S : Sto} : F__law_same_v1 [.bl x, .bl x] S = .ok (.bl true) S := same_ok (by simp [Dt]) (by simp [sz])
theorem judged0 {b : Brd} {r c : Nat} {S : Sto} (W : KB b r c) {t : T} (h : Gv t) : F__law_judged [eB b, t] S = .ok (.bl true) S := judged_ok W h
theorem eB_good {b : Brd} {r c : Nat} (W : KB b r c) : Gv (eB b) := by
  obtain ⟨p1, p2, p3, p4⟩ := W.pos
  have hl : (b.map eR).length ≤ 1000 := by rw [List.length_map]; have := W.len; omega
  refine Gv.tup hl fun t ht => ?_
  obtain ⟨q, hq, rfl⟩ := List.mem_map.mp ht
  exact Wg.any rfl (lts_strs _ _) (fun z h => by cases h)
theorem right_isOk {b : Brd} {st : List Str} {r c : Nat} (W : KB b r c) (V : SB st r c) (R : Rt b st) : isOk (flt b (eR st)) = true := by
  have hl : (st.map T.str).length = b.length := by rw [List.length_map, V.len, W.len]
  have hs : ∀ i, i < b.length → (st.map T.str)[i]? = some (.str (srow st i)) := fun i hi => by
    have : i < st.length := by rw [V.len, ← W.len]; exact hi
    rw [List.getElem?_map, List.getElem?_eq_getElem this]
    unfold srow
    rw [List.getElem?_eq_getElem this]
    rfl
  have f1 : fb b.length (rowOk b (st.map T.str)) = none := fb_none.mpr fun i hi => by
    unfold rowOk
    rw [hs i hi]
    have := srow_len W V hi
    have := W.wid
    simp; omega
  have f2 : fb b.length (fun i => (cellF b (st.map T.str) i).isNone) = none := fb_none.mpr fun i hi => by
    have : cellF b (st.map T.str) i = none := fb_none.mpr fun j hj => by
      have e : sgT (st.map T.str) i j = sg st i j := by
        unfold sgT
        rw [hs i hi]
        rfl
      rw [e]
      exact R i hi j hj
    rw [this]; rfl
  show isOk (fltR b (st.map T.str)) = true
  unfold fltR
  rw [if_neg (by omega), f1]
  simp only [f2]
  rfl
theorem is_set_true {b : Brd} {st : List Str} {r c : Nat} {S : Sto} (W : KB b r c) (V : SB st r c) (R : Rt b st) : F_is_setting [eB b, eR st] S = .ok (.bl true) S := by
  have := is_setting_ok (S := S) W (eR_good W V)
  rw [right_isOk W V R] at this
  exact this
theorem some_lap {b : Brd} {st : List Str} {r c : Nat} {S : Sto} {n : T} {x4 x5 x6 x7 x8 : Option T} (W : KB b r c) (V : SB st r c) (hw : Cw S) : ∃ y6 y7 y8 S1, L__law_some_1 [some (.ref 1), some (eB b), some n, some (eR st), x4, x5, x6, x7, x8] S = .nx [some (.ref 1), some (eB b), some n, some (eR st), x4, x5, y6, y7, y8] S1 ∧ Ch S S1 := by
  obtain ⟨p1, p2, p3, p4⟩ := W.pos
  obtain ⟨t, S1, e1, g1, h1, w1⟩ := bent_ok W V hw
  have ft := Od_fz g1.1.1
  have j1 := judged0 (S := S1) W g1
  obtain ⟨s2, S2, e2, V2, _, w2⟩ := law_setting_ok W w1.w
  obtain ⟨a, S3, e3, l3, w3⟩ := pull0 w2.w r p1 (by omega)
  have w13 := (w1.trans w2).trans w3
  have hlen : st.length = r := V.len
  have hr16 : r ≤ 16777216 := by omega
  let sh := fun (y6 y7 y8 : Option T) => [some (T.ref 1), some (eB b), some n, some (eR st), x4, x5, y6, y7, y8]
  have i1 : dSet 6 (dOwn 2 F__law_bent (dCons (dVar 0) (dCons (dVar 3) dNil))) (sh x6 x7 x8) S = .nx (sh (some t) x7 x8) S1 := by simp [sh, e1, ft]
  have i2 : (dIf (dNot (dTru (dOwn 2 F__law_judged (dCons (dVar 1) (dCons (dVar 6) dNil))))) (dRet (dC (.bl false))) dNext) (sh (some t) x7 x8) S1 = .nx (sh (some t) x7 x8) S1 := by simp [sh, ft, j1]
  have i3 : dSet 7 (dOwn 2 F__law_setting_v1 (dCons (dVar 0) (dCons (dVar 1) dNil))) (sh (some t) x7 x8) S1 = .nx (sh (some t) (some (eR s2)) x8) S2 := by simp [sh, e2]
  have i4 : dSet 8 (dOwn 2 F__law_pull_v1 (dCons (dVar 0) (dCons (dCall fLen (dCons (dVar 3) dNil)) dNil))) (sh (some t) (some (eR s2)) x8) S2 = .nx (sh (some t) (some (eR s2)) (some (.int a))) S3 := by
    simp [sh, eR, hlen, hr16, e3]
  by_cases q : ∃ rs, t = .tup rs ∧ rs.length = r
  · obtain ⟨rs, rfl, hrl⟩ := q
    have hz2 := srow_lenr W V2 l3
    have ix2 := fun S => st_ixr (S := S) W V2 l3
    obtain ⟨u, S4, e4, gu, w4⟩ := law_row_ok (z := srow s2 a) hz2 p2 p4 w3.w
    have fu := gu.1.fz
    have w14 := w13.trans w4
    have gs := Gv.swap g1 gu a (by omega)
    have j2 := judged0 (S := S4) W gs
    refine ⟨some (.tup rs), some (eR s2), some (.int a), S4, ?_, w14⟩
    unfold L__law_some_1
    rw [dSeq_eq, i1, RS.seq_nx, dSeq_eq, i2, RS.seq_nx, dSeq_eq, i3, RS.seq_nx, dSeq_eq, i4, RS.seq_nx]
    have hrs16 : rs.length ≤ 16777216 := by omega
    have c1 : cutT rs none (some (a : Int)) = rs.take a := cutT_to
    have c2 : cutT rs (some ((a : Int) + 1)) none = rs.drop (a + 1) := cutT_from1
    have y1 : (rs.take a).length + [u].length ≤ sizeLine := by rw [PySem.sizeLine_eq]; simp; omega
    have y2 : (rs.take a ++ [u]).length + (rs.drop (a + 1)).length ≤ sizeLine := by rw [PySem.sizeLine_eq]; simp; omega
    have ev : (dBin fAdd (dBin fAdd (dSl (dVar 6) dNoPart (dPart (dVar 8))) (dTup (dCons (dOwn 2 F__law_row (dCons (dVar 0) (dCons (dBin fIx (dVar 7) (dVar 8)) dNil))) dNil))) (dSl (dVar 6) (dPart (dBin fAdd (dVar 8) (dC (.int 1)))) dNoPart)) (sh (some (.tup rs)) (some (eR s2)) (some (.int a))) S3 = .ok (.tup (rs.take a ++ (u :: rs.drop (a + 1)))) S4 := by
      generalize rs.take a = P at *
      generalize rs.drop (a + 1) = Q at *
      simp only [sh]
      simp only [dBin_eq, dSl_eq, dVar_eq, List.getElem?_cons_zero, List.getElem?_cons_succ, varR_some, RE.bind_ok, dNoPart_eq, dPart_eq, RE.part_int, RO.bindE_ok, fz_tup, fz_int, fSl_tup, c1, dTup_eq, dCons_eq, dNil_eq, dOwn_eq, fz_ref, RE.consA_ok, RA.cons_ok, fz_eR, ix2, fz_str, RA.bind_ok]
      simp only [List.length_cons, List.length_nil, Nat.reduceAdd, if_true, e4, RE.consA_ok, RA.cons_ok, fu, RA.bind_ok]
      simp only [dNil_eq, RA.cons_ok, RA.bind_ok]
      rw [if_pos (show [u].length ≤ sizeLine by rw [PySem.sizeLine_eq]; simp), RE.bind_ok, fz_tup, fAdd_tup, if_pos y1]
      simp only [RE.bind_ok, fz_tup, dC_eq, fz_int, fAdd_int, RE.part_int, RO.bindE_ok, fSl_tup, c2]
      rw [fAdd_tup, if_pos y2]
      simp
    generalize (dBin fAdd (dBin fAdd (dSl (dVar 6) dNoPart (dPart (dVar 8))) (dTup (dCons (dOwn 2 F__law_row (dCons (dVar 0) (dCons (dBin fIx (dVar 7) (dVar 8)) dNil))) dNil))) (dSl (dVar 6) (dPart (dBin fAdd (dVar 8) (dC (.int 1)))) dNoPart)) = de at *
    simp only [sh, eR] at ev j2 ⊢
    simp [isaB, hrl, hlen, hr16, ev, j2]
  · refine ⟨some t, some (eR s2), some (.int a), S3, ?_, w13⟩
    unfold L__law_some_1
    rw [dSeq_eq, i1, RS.seq_nx, dSeq_eq, i2, RS.seq_nx, dSeq_eq, i3, RS.seq_nx, dSeq_eq, i4, RS.seq_nx]
    have hO := g1.1.1
    cases t with
    | tup rs =>
      have h2 : ¬ rs.length = r := fun z => q ⟨rs, rfl, z⟩
      have h3 := h1 rs rfl
      have h4 : rs.length ≤ 16777216 := by omega
      have h5 : ¬ ((rs.length : Nat) : Int) = (r : Nat) := by omega
      simp [sh, eR, isaB, h4, hlen, hr16, h2, h5]
    | non => simp [sh, isaB]
    | bl _ => simp [sh, isaB]
    | int _ => simp [sh, isaB]
    | str _ => simp [sh, isaB]
    | lst _ => simp [sh, isaB]
    | _ => simp [Od] at hO
theorem some_ok {b : Brd} {r c n : Nat} {S : Sto} (W : KB b r c) (hn : n ≤ 100) (hw : Cw S) : ∃ S1, F__law_some [.ref 1, eB b, .int n] S = .ok (.bl true) S1 ∧ Ch S S1 := by
  obtain ⟨p1, p2, p3, p4⟩ := W.pos
  obtain ⟨st, S1, e1, V, R, w1⟩ := law_setting_ok W hw
  have g1 := eR_good W V
  have j1 := judged0 (S := S1) W g1
  have j2 := is_set_true (S := S1) W V R
  let sh := fun (x4 x5 x6 x7 x8 : Option T) => [some (T.ref 1), some (eB b), some (T.int n), some (eR st), x4, x5, x6, x7, x8]
  let LL : List T := [.lst (st.map T.str), .non, .tup [], .str "dsu", .int 0, .bl true, .tup [.tup []], eB b]
  have hLL : ∀ t ∈ LL, Gv t := by
    intro t ht
    simp only [LL, List.mem_cons, List.not_mem_nil, or_false] at ht
    rcases ht with rfl | rfl | rfl | rfl | rfl | rfl | rfl | rfl
    · exact Gv.any rfl (lts_of fun r hr => (g1.mem.2 r hr).2) (by simp)
    · exact Gv.any rfl rfl (by simp)
    · exact Gv.tup (by simp) (by simp)
    · exact Gv.any rfl rfl (by simp)
    · exact Gv.any rfl rfl (by simp)
    · exact Gv.any rfl rfl (by simp)
    · refine Gv.tup (by simp) fun r hr => ?_
      rw [List.mem_singleton.mp hr]
      exact Wg.any rfl rfl (by simp)
    · exact eB_good W
  have q1 : ∃ x4', forL none LL (gN 4) L__law_some_0 LL (sh none none none none none) S1 = .nx (sh x4' none none none none) S1 := by
    obtain ⟨sl', S', q1, hS', _, x4', rfl⟩ := forL_inv (src := none) (all := LL) (g := gN 4) (b := L__law_some_0) id
      (fun xs sl St => St = S1 ∧ (∀ t ∈ xs, Gv t) ∧ ∃ x4, sl = sh x4 none none none none) (fun _ _ _ _ => trivial) (by
        rintro t xs sl St ⟨rfl, hg, x4, rfl⟩
        have g := hg t List.mem_cons_self
        have j := judged0 (S := St) W g
        have ft := Od_fz g.1.1
        refine ⟨_, _, sh (some t) none none none none, St, gN_eq _, .inl ?_, rfl, fun u hu => hg u (List.mem_cons_of_mem _ hu), _, rfl⟩
        simp [L__law_some_0, sh, ft, j])
      LL (sh none none none none none) S1 ⟨rfl, hLL, _, rfl⟩
    subst hS'
    rw [List.map_id] at q1
    exact ⟨x4', q1⟩
  obtain ⟨x4', q1⟩ := q1
  obtain ⟨sl', S2, q2, w2, y5, y6, y7, y8, rfl⟩ := forL_inv (src := none) (all := (List.range n).map fun k => T.int (k : Nat)) (g := gN 5) (b := L__law_some_1) (fun k : Nat => T.int k) (fun xs sl St => Ch S1 St ∧ ∃ x5 x6 x7 x8, sl = sh x4' x5 x6 x7 x8) (fun _ _ _ _ => trivial) (by
      rintro k xs sl St ⟨wS, x5, x6, x7, x8, rfl⟩
      obtain ⟨y6, y7, y8, S3, h1, h2⟩ := some_lap (n := .int n) (x4 := x4') (x5 := some (.int k)) (x6 := x6) (x7 := x7) (x8 := x8) W V wS.w
      exact ⟨_, _, sh x4' (some (.int k)) y6 y7 y8, S3, gN_eq _, .inl h1, wS.trans h2, _, _, _, _, rfl⟩)
    (List.range n) (sh x4' none none none none) S1 ⟨.refl w1.w, _, _, _, _, rfl⟩
  have w12 := w1.trans w2
  refine ⟨S2, ?_, w12⟩
  have hd1 := dFor_eq (dIt (dTup (dCons (dCall fList (dCons (dVar 3) dNil)) (dCons (dC .non) (dCons (dTup dNil) (dCons (dC (.str "dsu")) (dCons (dC (.int 0)) (dCons (dC (.bl true)) (dCons (dTup (dCons (dTup dNil) dNil)) (dCons (dVar 1) dNil)))))))))) (gN 4) L__law_some_0 (sh none none none none none) S1 (dIt_eq (S1 := S1) (t := .tup LL) (src := none) (ts := LL) (by simp [sh, LL, eR]) rfl)
  have hd2 := dFor_eq (dRng1 (dCons (dVar 2) dNil)) (gN 5) L__law_some_1 (sh x4' none none none none) S1 (dRng1_eq (n := n) (S1 := S1) (by simp [sh]) (by omega))
  have i1 : dSet 3 (dOwn 2 F__law_setting_v1 (dCons (dVar 0) (dCons (dVar 1) dNil))) [some (T.ref 1), some (eB b), some (T.int n), none, none, none, none, none, none] S = .nx (sh none none none none none) S1 := by simp [sh, e1]
  have i2 : (dIf (dOr (dNot (dTru (dOwn 2 F__law_judged (dCons (dVar 1) (dCons (dVar 3) dNil))))) (dNot (dTru (dOwn 2 F__law_same_v1 (dCons (dOwn 2 F_is_setting (dCons (dVar 1) (dCons (dVar 3) dNil))) (dCons (dC (.bl true)) dNil)))))) (dRet (dC (.bl false))) dNext) (sh none none none none none) S1 = .nx (sh none none none none none) S1 := by simp [sh, j1, j2, same1_bl]
  unfold F__law_some
  rw [dFun_eq (np := 3) (n := 9) (ts := [.ref 1, eB b, .int n]) rfl]
  show gcR S (b__law_some [some (T.ref 1), some (eB b), some (T.int n), none, none, none, none, none, none] S) = _
  unfold b__law_some
  rw [dSeq_eq, i1, RS.seq_nx, dSeq_eq, i2, RS.seq_nx, dSeq_eq, hd1, q1, RS.seq_nx, dSeq_eq, hd2, q2, RS.seq_nx]
  simp
  rw [w12.gcT rfl]
end Bd

/-! first and last settings, changed cells, letters at cells, one sign changed -/
namespace Bd
open PySem PySem.Spec L2 Dn Pk
theorem Dt_eR' (st : List Str) : Dt (eR st) = true := by
  simp only [eR, Dt]
  refine Dts_all.mpr fun t ht => ?_
  obtain ⟨k, _, rfl⟩ := List.mem_map.mp ht
  rfl
theorem sz_eR' (r : List Str) : sz (eR r) = 1 + r.length := by
  simp only [eR, sz, szs_sum, List.map_map]
  have : r.map (sz ∘ T.str) = r.map fun _ => 1 := rfl
  rw [this, List.map_const', List.sum_replicate_nat, Nat.mul_one]
theorem same_eR {st : List Str} {S : Sto} (h : st.length ≤ 1000) : F__law_same_v1 [eR st, eR st] S = .ok (.bl true) S := same_ok (Dt_eR' st) (by rw [sz_eR']; omega)
@[simp] theorem fExtend_top {S : Sto} {acc qs : List T} : fExtend (.ref S.length) [.lst qs] (S ++ [.lst acc]) = if acc.length + qs.length ≤ sizeLine then .ok .non (S ++ [.lst (acc ++ qs)]) else .bad := by
  unfold fExtend
  simp [lstOf']
/-! ### cuts of texts -/
theorem cutS_to {z : Str} {n : Nat} (h : n ≤ z.length) : cutS z none (some (n : Int)) = Sx ((tl z).take n) := by
  unfold cutS HT.sIx tl
  simp only [Int.toNat_natCast]
  rw [if_neg (by omega), List.drop_zero, Nat.sub_zero, Nat.min_eq_left h]
theorem cutS_from {z : Str} {n : Nat} (h : n ≤ z.length) : cutS z (some (n : Int)) none = Sx ((tl z).drop n) := by
  unfold cutS HT.sIx tl
  simp only [Int.toNat_natCast]
  rw [if_neg (by omega), Nat.min_eq_left h]
  congr 1
  have e : z.cps.toList.length = z.length := by rw [Array.length_toList]; rfl
  rw [List.take_of_length_le (by rw [List.length_drop, e]; omega)]
theorem cutS_from1 {z : Str} {n : Nat} (h : n < z.length) : cutS z (some ((n : Int) + 1)) none = Sx ((tl z).drop (n + 1)) := by
  have := cutS_from (z := z) (n := n + 1) (by omega)
  simpa using this
theorem fIx_last {S : Sto} {z : Str} (hl : z.length ≤ 16777216) (h : 0 < z.length) : ∃ c, (tl z).getLast? = some c ∧ fIx (.str z) (.int (-1)) S = .ok (ch c) S := by
  have hi : 0 < (tl z).length := by rw [len_tl]; exact h
  obtain ⟨c, hc⟩ : ∃ c, (tl z).getLast? = some c := by
    cases e : (tl z).getLast? with
    | none => rw [List.getLast?_eq_none_iff] at e; rw [e] at hi; cases hi
    | some c => exact ⟨c, rfl⟩
  refine ⟨c, hc, ?_⟩
  show (if z.length ≤ sizeLine then (match atI (tl z) (-1) with | some c => RE.ok (T.str ⟨#[c]⟩) S | none => .bad) else .bad) = _
  rw [if_pos (by simpa using hl), atI_m1, hc]
/-! ### first and last -/
def frs (k : Str) : Str := if k = "" then "#" else cutS k none (some 1)
def lss (k : Str) : Str := if k = "" then "#" else cutS k (some (-1)) none
theorem frs_one : ∀ k ∈ KS, k ≠ "" → (⟨#[(tl k)[0]?.getD 0]⟩ : Str) = cutS k none (some 1) := by decide +kernel
theorem lss_one : ∀ k ∈ KS, k ≠ "" → (tl k).getLast?.map (fun c => (⟨#[c]⟩ : Str)) = some (cutS k (some (-1)) none) := by decide +kernel
theorem frs_len : ∀ k ∈ KS, (frs k).length = 1 := by decide +kernel
theorem lss_len : ∀ k ∈ KS, (lss k).length = 1 := by decide +kernel
def edg (f : Str → Str) (b : Brd) : List Str := b.map fun q => Sx ((q.map f).flatMap tl)
theorem join_map {q : List Str} {f : Str → Str} {S : Sto} (hq : ∀ k ∈ q, (f k).length = 1) (hl : q.length ≤ 100) : fJoin (.str "") [.lst ((q.map f).map T.str)] S = .ok (.str (Sx ((q.map f).flatMap tl))) S := by
  refine fJoin0 rfl ?_
  have : ∀ l : List Str, (∀ k ∈ l, (f k).length = 1) → ((l.map f).map (·.length)).sum = l.length := by
    intro l
    induction l with
    | nil => intro _; rfl
    | cons k l ih =>
      intro h
      rw [List.map_cons, List.map_cons, List.sum_cons, ih fun k hk => h k (List.mem_cons_of_mem _ hk), h k List.mem_cons_self, List.length_cons, Nat.add_comm]
  rw [this q hq]
  omega
section
variable {b : Brd} {r c : Nat} {S : Sto} (W : KB b r c)
include W
theorem first_ok : F_first_setting [eB b] S = .ok (eR (edg frs b)) S := by
  obtain ⟨p1, p2, p3, p4⟩ := W.pos
  have hc : C_first_setting_1 [some (eB b), none, none] S = .ok (.nlst ((edg frs b).map T.str)) S := by
    unfold C_first_setting_1
    rw [dLc_eq _ _ _ _ _ _ _ (dIt_eq (S1 := S) (t := eB b) (src := none) (ts := b.map eR) (by simp) rfl)]
    rw [lcL_map still_none eR (fun _ => true) (fun q => T.str (Sx ((q.map frs).flatMap tl))) b [] ?_ (by simp; have := W.len; omega)]
    · rw [List.nil_append, List.filter_eq_self.mpr (fun _ _ => rfl)]
      unfold edg
      rw [List.map_map]
      rfl
    · intro q hq
      have hql : q.length = c := (W.wb.rect q hq).trans W.wid
      refine ⟨[some (eB b), some (eR q), none], by simp [wipeT], rfl, fun _ => ⟨.str (Sx ((q.map frs).flatMap tl)), ?_, rfl⟩⟩
      have h0 : C_first_setting_0 [some (eB b), some (eR q), none] S = .ok (.nlst ((q.map frs).map T.str)) S := by
        unfold C_first_setting_0
        rw [dLc_eq _ _ _ _ _ _ _ (dIt_eq (S1 := S) (t := eR q) (src := none) (ts := q.map T.str) (by simp) rfl)]
        rw [lcL_map still_none T.str (fun _ => true) (fun k => T.str (frs k)) q [] ?_ (by simp; omega)]
        · rw [List.nil_append, List.filter_eq_self.mpr (fun _ _ => rfl), List.map_map]
          rfl
        · intro k hk
          refine ⟨[some (eB b), some (eR q), some (.str k)], by simp [wipeT], rfl, fun _ => ⟨.str (frs k), ?_, rfl⟩⟩
          have hkK := W.ks q hq k hk
          by_cases h0 : k = ""
          · subst h0
            simp [frs]
          · have hp : 0 < k.length := by
              rw [← len_tl]
              exact List.length_pos_iff.mpr fun z => h0 (ne_tl.mpr z)
            have hkl := KS_len k hkK
            have e := frs_one k hkK h0
            simp [frs, h0, fIx_str0 (show k.length ≤ 16777216 by omega) hp, e]
      have hj := join_map (S := S) (q := q) (f := frs) (fun k hk => frs_len k (W.ks q hq k hk)) (by omega)
      simp only [dMeth_eq, dC_eq, RE.bind_ok, dCons_eq, h0, dNil_eq, RE.consA_ok, RA.cons_ok, fz_nlst, fz_str, RA.bind_ok, hj]
      rfl
  simp [F_first_setting, dFun_eq, b_first_setting, hc]
  rw [gcT_same (by simp [lts_strs])]
  rfl
theorem last_ok : F_last_setting [eB b] S = .ok (eR (edg lss b)) S := by
  obtain ⟨p1, p2, p3, p4⟩ := W.pos
  have hc : C_last_setting_1 [some (eB b), none, none] S = .ok (.nlst ((edg lss b).map T.str)) S := by
    unfold C_last_setting_1
    rw [dLc_eq _ _ _ _ _ _ _ (dIt_eq (S1 := S) (t := eB b) (src := none) (ts := b.map eR) (by simp) rfl)]
    rw [lcL_map still_none eR (fun _ => true) (fun q => T.str (Sx ((q.map lss).flatMap tl))) b [] ?_ (by simp; have := W.len; omega)]
    · rw [List.nil_append, List.filter_eq_self.mpr (fun _ _ => rfl)]
      unfold edg
      rw [List.map_map]
      rfl
    · intro q hq
      have hql : q.length = c := (W.wb.rect q hq).trans W.wid
      refine ⟨[some (eB b), some (eR q), none], by simp [wipeT], rfl, fun _ => ⟨.str (Sx ((q.map lss).flatMap tl)), ?_, rfl⟩⟩
      have h0 : C_last_setting_0 [some (eB b), some (eR q), none] S = .ok (.nlst ((q.map lss).map T.str)) S := by
        unfold C_last_setting_0
        rw [dLc_eq _ _ _ _ _ _ _ (dIt_eq (S1 := S) (t := eR q) (src := none) (ts := q.map T.str) (by simp) rfl)]
        rw [lcL_map still_none T.str (fun _ => true) (fun k => T.str (lss k)) q [] ?_ (by simp; omega)]
        · rw [List.nil_append, List.filter_eq_self.mpr (fun _ _ => rfl), List.map_map]
          rfl
        · intro k hk
          refine ⟨[some (eB b), some (eR q), some (.str k)], by simp [wipeT], rfl, fun _ => ⟨.str (lss k), ?_, rfl⟩⟩
          have hkK := W.ks q hq k hk
          by_cases h0 : k = ""
          · subst h0
            simp [lss]
          · have hp : 0 < k.length := by
              rw [← len_tl]
              exact List.length_pos_iff.mpr fun z => h0 (ne_tl.mpr z)
            have hkl := KS_len k hkK
            have e := lss_one k hkK h0
            obtain ⟨c2, hc2, hc3⟩ := fIx_last (S := S) (z := k) (by omega) hp
            rw [hc2] at e
            have e' : (⟨#[c2]⟩ : Str) = cutS k (some (-1)) none := Option.some.inj e
            simp [lss, h0, hc3, e']
      have hj := join_map (S := S) (q := q) (f := lss) (fun k hk => lss_len k (W.ks q hq k hk)) (by omega)
      simp only [dMeth_eq, dC_eq, RE.bind_ok, dCons_eq, h0, dNil_eq, RE.consA_ok, RA.cons_ok, fz_nlst, fz_str, RA.bind_ok, hj]
      rfl
  simp [F_last_setting, dFun_eq, b_last_setting, hc]
  rw [gcT_same (by simp [lts_strs])]
  rfl
theorem edge1_ok {x2 : Option T} : C__law_edges_1 [some (.ref 1), some (eB b), x2, none, none, none, none, none, none, none, none, none, none] S = .ok (.nlst ((edg frs b).map T.str)) S := by
  obtain ⟨p1, p2, p3, p4⟩ := W.pos
  let sh := fun (x7 x12 : Option T) => [some (T.ref 1), some (eB b), x2, none, none, none, none, x7, none, none, none, none, x12]
  unfold C__law_edges_1
  rw [dLc_eq _ _ _ _ _ _ _ (dIt_eq (S1 := S) (t := eB b) (src := none) (ts := b.map eR) (by simp) rfl)]
  rw [lcL_map still_none eR (fun _ => true) (fun q => T.str (Sx ((q.map frs).flatMap tl))) b [] ?_ (by simp; have := W.len; omega)]
  · rw [List.nil_append, List.filter_eq_self.mpr (fun _ _ => rfl)]
    unfold edg
    rw [List.map_map]
    rfl
  · intro q hq
    have hql : q.length = c := (W.wb.rect q hq).trans W.wid
    refine ⟨sh (some (eR q)) none, by simp [sh, wipeT], rfl, fun _ => ⟨.str (Sx ((q.map frs).flatMap tl)), ?_, rfl⟩⟩
    have h0 : C__law_edges_0 (sh (some (eR q)) none) S = .ok (.nlst ((q.map frs).map T.str)) S := by
      unfold C__law_edges_0
      rw [dLc_eq _ _ _ _ _ _ _ (dIt_eq (S1 := S) (t := eR q) (src := none) (ts := q.map T.str) (by simp [sh]) rfl)]
      rw [lcL_map still_none T.str (fun _ => true) (fun k => T.str (frs k)) q [] ?_ (by simp; omega)]
      · rw [List.nil_append, List.filter_eq_self.mpr (fun _ _ => rfl), List.map_map]
        rfl
      · intro k hk
        refine ⟨sh (some (eR q)) (some (.str k)), by simp [sh, wipeT], rfl, fun _ => ⟨.str (frs k), ?_, rfl⟩⟩
        have hkl := KS_len k (W.ks q hq k hk)
        have hk16 : k.length ≤ 16777216 := by omega
        by_cases h0 : k = ""
        · subst h0
          simp [sh, frs]
        · simp [sh, frs, h0, hk16]
    have hj := join_map (S := S) (q := q) (f := frs) (fun k hk => frs_len k (W.ks q hq k hk)) (by omega)
    simp only [dMeth_eq, dC_eq, RE.bind_ok, dCons_eq, h0, dNil_eq, RE.consA_ok, RA.cons_ok, fz_nlst, fz_str, RA.bind_ok, hj]
    rfl
theorem edge3_ok {x2 : Option T} : C__law_edges_3 [some (.ref 1), some (eB b), x2, none, none, none, none, none, none, none, none, none, none] S = .ok (.nlst ((edg lss b).map T.str)) S := by
  obtain ⟨p1, p2, p3, p4⟩ := W.pos
  let sh := fun (x7 x12 : Option T) => [some (T.ref 1), some (eB b), x2, none, none, none, none, x7, none, none, none, none, x12]
  unfold C__law_edges_3
  rw [dLc_eq _ _ _ _ _ _ _ (dIt_eq (S1 := S) (t := eB b) (src := none) (ts := b.map eR) (by simp) rfl)]
  rw [lcL_map still_none eR (fun _ => true) (fun q => T.str (Sx ((q.map lss).flatMap tl))) b [] ?_ (by simp; have := W.len; omega)]
  · rw [List.nil_append, List.filter_eq_self.mpr (fun _ _ => rfl)]
    unfold edg
    rw [List.map_map]
    rfl
  · intro q hq
    have hql : q.length = c := (W.wb.rect q hq).trans W.wid
    refine ⟨sh (some (eR q)) none, by simp [sh, wipeT], rfl, fun _ => ⟨.str (Sx ((q.map lss).flatMap tl)), ?_, rfl⟩⟩
    have h0 : C__law_edges_2 (sh (some (eR q)) none) S = .ok (.nlst ((q.map lss).map T.str)) S := by
      unfold C__law_edges_2
      rw [dLc_eq _ _ _ _ _ _ _ (dIt_eq (S1 := S) (t := eR q) (src := none) (ts := q.map T.str) (by simp [sh]) rfl)]
      rw [lcL_map still_none T.str (fun _ => true) (fun k => T.str (lss k)) q [] ?_ (by simp; omega)]
      · rw [List.nil_append, List.filter_eq_self.mpr (fun _ _ => rfl), List.map_map]
        rfl
      · intro k hk
        refine ⟨sh (some (eR q)) (some (.str k)), by simp [sh, wipeT], rfl, fun _ => ⟨.str (lss k), ?_, rfl⟩⟩
        have hkl := KS_len k (W.ks q hq k hk)
        have hk16 : k.length ≤ 16777216 := by omega
        by_cases h0 : k = ""
        · subst h0
          simp [sh, lss]
        · simp [sh, lss, h0, hk16]
    have hj := join_map (S := S) (q := q) (f := lss) (fun k hk => lss_len k (W.ks q hq k hk)) (by omega)
    simp only [dMeth_eq, dC_eq, RE.bind_ok, dCons_eq, h0, dNil_eq, RE.consA_ok, RA.cons_ok, fz_nlst, fz_str, RA.bind_ok, hj]
    rfl
/-! ### changed cells -/
omit W in
def chr (c : Nat) (one other : List Str) (i : Nat) : List T := ((List.range c).filter fun j => !decide (sg one i j = sg other i j)).map fun j => T.tup [.int i, .int (j : Nat)]
omit W in
def chg (r c : Nat) (one other : List Str) : List T := (List.range r).flatMap (chr c one other)
omit W in
theorem chr_flat {c : Nat} {one other : List Str} {i : Nat} : (List.range c).flatMap (fun j => if sg one i j = sg other i j then [] else [T.tup [.int i, .int (j : Nat)]]) = chr c one other i := by
  unfold chr
  induction List.range c with
  | nil => rfl
  | cons j l ih =>
    rw [List.flatMap_cons, ih]
    by_cases h : sg one i j = sg other i j
    · simp [h]
    · simp [h]
omit W in
theorem chr_len {c : Nat} {one other : List Str} {i : Nat} : (chr c one other i).length ≤ c := by
  unfold chr
  rw [List.length_map]
  exact Nat.le_trans (List.length_filter_le _ _) (by simp)
theorem changed_ok {one other : List Str} (V : SB one r c) (V2 : SB other r c) : F_changed_cells [eR one, eR other] S = .ok (.tup (chg r c one other)) S := by
  obtain ⟨p1, p2, p3, p4⟩ := W.pos
  have hwid := W.wid
  have hlen := W.len
  let sh := fun (x3 x4 : Option T) => [some (eR one), some (eR other), some (T.ref S.length), x3, x4]
  have inner : ∀ i, i < r → ∀ acc x4, acc.length ≤ 100000 → ∃ y4, L_changed_cells_1 (sh (some (.int (i : Nat))) x4) (S ++ [.lst acc]) = .nx (sh (some (.int (i : Nat))) y4) (S ++ [.lst (acc ++ chr c one other i)]) := by
    intro i hi acc x4 hac
    have a1 := fun S => st_ixr (S := S) W V hi
    have a2 := fun S => st_ixr (S := S) W V2 hi
    have l1 := srow_lenr W V hi
    have hc16 : c ≤ 16777216 := by omega
    have hf := dFor_eq (dRng1 (dCons (dCall fLen (dCons (dBin fIx (dVar 0) (dVar 3)) dNil)) dNil)) (gN 4) L_changed_cells_0 (sh (some (.int (i : Nat))) x4) (S ++ [.lst acc]) (dRng1_eq (n := c) (S1 := S ++ [.lst acc]) (by simp [sh, a1, l1, hc16]) (by omega))
    obtain ⟨sl', q1, y4, rfl⟩ := for_app (S := S) (src := none) (all := (List.range c).map fun k => T.int (k : Nat)) (g := gN 4) (b := L_changed_cells_0) (fun k : Nat => T.int k) (fun j => if sg one i j = sg other i j then [] else [T.tup [.int i, .int (j : Nat)]]) (fun sl => ∃ x, sl = sh (some (.int (i : Nat))) x) 1 1000000 (fun _ => trivial)
      (List.range c) acc (sh (some (.int (i : Nat))) x4) (fun j _ => by split <;> simp) (fun j hj acc sl ⟨x, e⟩ hl => by
        subst e
        have hj' : j < c := by simpa using hj
        refine ⟨_, _, sh (some (.int (i : Nat))) (some (.int (j : Nat))), gN_eq _, .inl ?_, _, rfl⟩
        have hz : acc.length < 16777216 := by omega
        have b1 := fun S => st_cell (S := S) W V (i := i) (j := j) (by omega) (by omega)
        have b2 := fun S => st_cell (S := S) W V2 (i := i) (j := j) (by omega) (by omega)
        by_cases h : sg one i j = sg other i j
        · simp [L_changed_cells_0, sh, a1, a2, b1, b2, h]
        · simp [L_changed_cells_0, sh, a1, a2, b1, b2, h, hz]) (by simp; omega) ⟨_, rfl⟩
    rw [chr_flat] at q1
    refine ⟨y4, ?_⟩
    unfold L_changed_cells_1
    rw [hf, q1]
  obtain ⟨sl', q1, y3, y4, rfl⟩ := for_app (S := S) (src := none) (all := (List.range r).map fun k => T.int (k : Nat)) (g := gN 3) (b := L_changed_cells_1) (fun k : Nat => T.int k) (chr c one other) (fun sl => ∃ x3 x4, sl = sh x3 x4) 100 20000 (fun _ => trivial)
    (List.range r) [] (sh none none) (fun i _ => Nat.le_trans chr_len p4) (fun i hi acc sl ⟨x3, x4, e⟩ hl => by
      subst e
      obtain ⟨y4, h⟩ := inner i (by simpa using hi) acc x4 (by omega)
      exact ⟨_, _, sh (some (.int (i : Nat))) y4, gN_eq _, .inl h, _, _, rfl⟩) (by simp; omega) ⟨_, _, rfl⟩
  have hr := dFor_eq (dRng1 (dCons (dCall fLen (dCons (dVar 0) dNil)) dNil)) (gN 3) L_changed_cells_1 (sh none none) (S ++ [.lst []]) (dRng1_eq (S1 := S ++ [.lst []]) (n := r) (by
    have h1 := V.len
    have h2 : r ≤ 16777216 := by omega
    simp [sh, eR, h1, h2]) (by omega))
  rw [List.nil_append] at q1
  have hlt : T.lts S.length (chg r c one other) = true := by
    refine T.lts_mono (Nat.zero_le _) (lts_of fun t ht => ?_)
    obtain ⟨i, _, hi⟩ := List.mem_flatMap.mp ht
    obtain ⟨j, _, rfl⟩ := List.mem_map.mp hi
    rfl
  have q2 : forL none ((List.range r).map fun k => T.int (k : Nat)) (gN 3) L_changed_cells_1 ((List.range r).map fun k => T.int (k : Nat)) (sh none none) (S ++ [.lst []]) = .nx (sh y3 y4) (S ++ [.lst (chg r c one other)]) := q1
  generalize chg r c one other = G at q2 hlt
  simp only [F_changed_cells, dFun_eq (np := 2) (n := 5) (ts := [eR one, eR other]) rfl, b_changed_cells]
  simp only [sh] at hr q2
  simp
  rw [hr.trans q2]
  simp
  rw [gcT_app (by simpa using hlt)]
end
end Bd

/-! letters at cells, one sign changed; the refusals -/
namespace Bd
open PySem PySem.Spec L2 Dn Pk
def numb : T → Bool
  | .int i => decide (0 ≤ i)
  | _ => false
theorem is_number_ok {t : T} {S : Sto} (h : Od t = true) : F_is_number [t] S = .ok (.bl (numb t)) S := by
  have hw := is_whole_ok (S := S) h
  have ft := Od_fz h
  cases t with
  | int i =>
    simp [F_is_number, dFun_eq, b_is_number, hw, whole, numb]
    rw [gcT_same (by simp)]
    try rfl
  | non => simp [F_is_number, dFun_eq, b_is_number, hw, whole, numb]; rw [gcT_same (by simp)]
  | bl b => simp [F_is_number, dFun_eq, b_is_number, hw, whole, numb]; rw [gcT_same (by simp)]
  | str b => simp [F_is_number, dFun_eq, b_is_number, hw, whole, numb]; rw [gcT_same (by simp)]
  | tup b => simp [F_is_number, dFun_eq, b_is_number, hw, whole, numb]; rw [gcT_same (by simp)]
  | lst b => simp [F_is_number, dFun_eq, b_is_number, hw, whole, numb]; rw [gcT_same (by simp)]
  | _ => simp [Od] at h
theorem lt_eR {n : Nat} {l : List Str} : (eR l).lt n = true := by
  show T.lts n (l.map T.str) = true
  exact lts_strs _ _
def setSg (st : List Str) (i j c0 : Nat) : List Str := st.set i (Sx ((tl (srow st i)).set j c0))
section
variable {b : Brd} {st : List Str} {r c : Nat} {S : Sto} (W : KB b r c) (V : SB st r c)
include W V
theorem st_cellr {i j : Nat} (hi : i < r) (hj : j < c) : fIx (.str (srow st i)) (.int j) S = .ok (ch (sg st i j)) S := st_cell W V (by rw [W.len]; exact hi) (by rw [W.wid]; exact hj)
theorem letter_at_ok {i j : Nat} (hi : i < r) (hj : j < c) : F_letter_at [eR st, .int i, .int j] S = .ok (ch (sg st i j)) S := by
  obtain ⟨p1, p2, p3, p4⟩ := W.pos
  have n1 := is_number_ok (S := S) (t := .int (i : Int)) rfl
  have n2 := is_number_ok (S := S) (t := .int (j : Int)) rfl
  have a1 := st_ixr (S := S) W V hi
  have a0 := st_ixr (S := S) W V p1
  have l0 := srow_lenr W V p1
  have b1 := st_cellr (S := S) W V hi hj
  have hlen : st.length = r := V.len
  have hr16 : r ≤ 16777216 := by omega
  have hc16 : c ≤ 16777216 := by omega
  have i1 : ¬ (r : Int) ≤ (i : Int) := by omega
  have i2 : ¬ (c : Int) ≤ (j : Int) := by omega
  have fl : fLen [eR st] S = .ok (.int r) S := by simp [eR, hlen, hr16]
  have a0' : fIx (eR st) (.int 0) S = .ok (.str (srow st 0)) S := a0
  simp [F_letter_at, dFun_eq, b_letter_at, n1, n2, numb, fl, hlen, a0', a1, b1, l0, hc16, i1, i2]
  try rw [if_neg (by omega)]
  try simp [a1, b1]
  rw [gcT_same (by simp)]
theorem letter_at_no {x y : T} (hx : Od x = true) (hy : Od y = true) (h : isCell b x y = false) : F_letter_at [eR st, x, y] S = bsx "cell" S := by
  obtain ⟨p1, p2, p3, p4⟩ := W.pos
  have fx := Od_fz hx
  have fy := Od_fz hy
  have n1 := is_number_ok (S := S) hx
  have n2 := is_number_ok (S := S) hy
  have a0 : fIx (eR st) (.int 0) S = .ok (.str (srow st 0)) S := st_ixr (S := S) W V p1
  have l0 := srow_lenr W V p1
  have hlen : st.length = r := V.len
  have hr16 : r ≤ 16777216 := by omega
  have hc16 : c ≤ 16777216 := by omega
  have fl : fLen [eR st] S = .ok (.int r) S := by simp [eR, hlen, hr16]
  have hbl := W.len
  have hbw := W.wid
  cases q1 : numb x with
  | false =>
    rw [q1] at n1
    simp [F_letter_at, dFun_eq, b_letter_at, fx, fy, n1]
    rw [gcX_same (by simp)]
  | true =>
    rw [q1] at n1
    obtain ⟨i, rfl⟩ : ∃ i, x = .int i := by cases x <;> simp [numb] at q1; exact ⟨_, rfl⟩
    have h0 : 0 ≤ i := by simpa [numb] using q1
    by_cases q2 : (r : Int) ≤ i
    · have q2' : ¬ i < (r : Int) := by omega
      simp [F_letter_at, dFun_eq, b_letter_at, fy, n1, fl, hlen, q2, q2']
      rw [gcX_same (by simp)]
    · have q2' : i < (r : Int) := by omega
      cases q3 : numb y with
      | false =>
        rw [q3] at n2
        simp [F_letter_at, dFun_eq, b_letter_at, fy, n1, fl, hlen, q2, q2', n2]
        rw [gcX_same (by simp)]
      | true =>
        rw [q3] at n2
        obtain ⟨j, rfl⟩ : ∃ i, y = .int i := by cases y <;> simp [numb] at q3; exact ⟨_, rfl⟩
        have h1 : 0 ≤ j := by simpa [numb] using q3
        have q4 : (c : Int) ≤ j := by
          by_cases z : (c : Int) ≤ j
          · exact z
          · exfalso
            have : isCell b (.int i) (.int j) = true := by
              simp only [isCell, Bool.and_eq_true, decide_eq_true_eq]
              omega
            rw [this] at h; cases h
        have q4' : ¬ j < (c : Int) := by omega
        simp [F_letter_at, dFun_eq, b_letter_at, n1, fl, hlen, q2, q2', n2, a0, l0, hc16, q4, q4']
        rw [gcX_same (by simp)]
theorem setSg_line {i j c0 : Nat} (hi : i < r) (hj : j < c) : cutS (srow st i) none (some (j : Int)) ++ (⟨#[c0]⟩ : Str) ++ cutS (srow st i) (some ((j : Int) + 1)) none = Sx ((tl (srow st i)).set j c0) := by
  have hl := srow_lenr W V hi
  rw [cutS_to (by omega), cutS_from1 (by omega), show (⟨#[c0]⟩ : Str) = Sx [c0] from rfl, Sx_cat, Sx_cat, Sx_inj, List.set_eq_take_append_cons_drop, if_pos (by rw [len_tl]; omega)]
  simp
theorem setSg_tup {i j c0 : Nat} (hi : i < r) : (st.map T.str).take i ++ (T.str (Sx ((tl (srow st i)).set j c0)) :: (st.map T.str).drop (i + 1)) = (setSg st i j c0).map T.str := by
  unfold setSg
  generalize Sx ((tl (srow st i)).set j c0) = L
  rw [List.map_set, List.set_eq_take_append_cons_drop, if_pos (by rw [List.length_map, V.len]; exact hi)]
theorem put_sign_ok {i j c0 : Nat} (hi : i < r) (hj : j < c) : F_put_sign [eR st, .int i, .int j, ch c0] S = .ok (eR (setSg st i j c0)) S := by
  obtain ⟨p1, p2, p3, p4⟩ := W.pos
  have a1 := fun S => st_ixr (S := S) W V hi
  have hl := srow_lenr W V hi
  have hlen : st.length = r := V.len
  have e1 := setSg_line W V (c0 := c0) hi hj
  have e2 := setSg_tup W V (j := j) (c0 := c0) hi
  have k1 := cut_len (z := srow st i) (lo := none) (hi := some (j : Int))
  have k2 := cut_len (z := srow st i) (lo := some ((j : Int) + 1)) (hi := none)
  generalize srow st i = z at *
  have y0 : z.length ≤ 16777216 := by omega
  have y1 : (cutS z none (some (j : Int))).length + (⟨#[c0]⟩ : Str).length ≤ 16777216 := by have : (⟨#[c0]⟩ : Str).length = 1 := rfl; omega
  have y2 : (cutS z none (some (j : Int)) ++ (⟨#[c0]⟩ : Str)).length + (cutS z (some ((j : Int) + 1)) none).length ≤ 16777216 := by
    have : (⟨#[c0]⟩ : Str).length = 1 := rfl
    rw [cat_len]; omega
  generalize Sx ((tl z).set j c0) = L at *
  have c1 : cutT (st.map T.str) none (some (i : Int)) = (st.map T.str).take i := cutT_to
  have c2 : cutT (st.map T.str) (some ((i : Int) + 1)) none = (st.map T.str).drop (i + 1) := cutT_from1
  have y3 : ((st.map T.str).take i).length + [T.str L].length ≤ sizeLine := by rw [PySem.sizeLine_eq]; simp; omega
  have y4 : ((st.map T.str).take i ++ [T.str L]).length + ((st.map T.str).drop (i + 1)).length ≤ sizeLine := by rw [PySem.sizeLine_eq]; simp; omega
  generalize (st.map T.str).take i = P at *
  generalize (st.map T.str).drop (i + 1) = Q at *
  let sh := fun (x4 : Option T) => [some (eR st), some (T.int i), some (T.int j), some (ch c0), x4]
  have s1 : dSet 4 (dBin fAdd (dBin fAdd (dSl (dBin fIx (dVar 0) (dVar 1)) dNoPart (dPart (dVar 2))) (dVar 3)) (dSl (dBin fIx (dVar 0) (dVar 1)) (dPart (dBin fAdd (dVar 2) (dC (.int 1)))) dNoPart)) (sh none) S = .nx (sh (some (.str L))) S := by
    have y1' : (cutS z none (some (j : Int))).length ≤ 16777215 := by omega
    simp [sh, a1, y0, y1', y2, e1]
  have s2 : (dBin fAdd (dBin fAdd (dSl (dVar 0) dNoPart (dPart (dVar 1))) (dTup (dCons (dVar 4) dNil))) (dSl (dVar 0) (dPart (dBin fAdd (dVar 1) (dC (.int 1)))) dNoPart)) (sh (some (.str L))) S = .ok (eR (setSg st i j c0)) S := by
    simp only [sh, eR]
    simp only [dBin_eq, dSl_eq, dVar_eq, List.getElem?_cons_zero, List.getElem?_cons_succ, varR_some, RE.bind_ok, dNoPart_eq, dPart_eq, RE.part_int, RO.bindE_ok, fz_tup, fz_int, fSl_tup, c1, dTup_eq, dCons_eq, dNil_eq, RE.consA_ok, RA.cons_ok, fz_str, RA.bind_ok]
    rw [if_pos (show [T.str L].length ≤ sizeLine by rw [PySem.sizeLine_eq]; simp), RE.bind_ok, fz_tup, fAdd_tup, if_pos y3]
    simp only [RE.bind_ok, fz_tup, dC_eq, fz_int, fAdd_int, RE.part_int, RO.bindE_ok, fSl_tup, c2]
    rw [fAdd_tup, if_pos y4, ← e2]
    simp
  unfold F_put_sign
  rw [dFun_eq (np := 4) (n := 5) (ts := [eR st, .int i, .int j, ch c0]) rfl]
  show gcR S (b_put_sign (sh none) S) = _
  unfold b_put_sign
  rw [dSeq_eq, s1, RS.seq_nx, dRet_eq, s2]
  simp
  rw [gcT_same lt_eR]
theorem look_open_ok {x y : T} (hx : Od x = true) (hy : Od y = true) : F_look_for_open [eB b, x, y] S = if isCell b x y then (match x, y with
    | .int i, .int j => if at_ b i.toNat j.toNat = "" then bsx "wall" S else .ok .non S
    | _, _ => .bad) else bsx "cell" S := by
  have l := look_cell_ok (S := S) W.wb hx hy
  have fx := Od_fz hx
  have fy := Od_fz hy
  cases q : isCell b x y with
  | false =>
    rw [q] at l
    simp [F_look_for_open, dFun_eq, b_look_for_open, fx, fy, l]
    rw [gcX_same (by simp)]
  | true =>
    rw [q] at l
    obtain ⟨i, rfl⟩ : ∃ i, x = .int i := by cases x <;> simp [isCell] at q; exact ⟨_, rfl⟩
    obtain ⟨j, rfl⟩ : ∃ i, y = .int i := by cases y <;> simp [isCell] at q; exact ⟨_, rfl⟩
    simp only [isCell, Bool.and_eq_true, decide_eq_true_eq] at q
    obtain ⟨m, rfl⟩ := Int.eq_ofNat_of_zero_le q.1.1
    obtain ⟨k, rfl⟩ := Int.eq_ofNat_of_zero_le q.2.1
    have h1 := ix_row (S := S) W.wb (r := m) (by omega)
    have h2 := ix_cell (S := S) W.wb (r := m) (c := k) (by omega) (by omega)
    by_cases h0 : at_ b m k = ""
    · rw [h0] at h2
      simp [F_look_for_open, dFun_eq, b_look_for_open, l, h1, h2, h0]
      rw [gcX_same (by simp)]
    · simp [F_look_for_open, dFun_eq, b_look_for_open, l, h1, h2, h0]
      rw [gcT_same (by simp)]
theorem with_letter {x y l : T} (hx : Od x = true) (hy : Od y = true) (hl : Wv l) (h : isOne LT3 l = false) : F_with_sign [eB b, eR st, x, y, l] S = bsx "letter" S := by
  have il := is_letter_ok (S := S) hl
  rw [h] at il
  have fx := Od_fz hx
  have fy := Od_fz hy
  have fl := hl.fz
  simp [F_with_sign, dFun_eq, b_with_sign, fx, fy, fl, il]
  rw [gcX_same (by simp)]
theorem with_cell {x y l : T} (hx : Od x = true) (hy : Od y = true) (hl : Wv l) (h : isOne LT3 l = true) (hc : isCell b x y = false) : F_with_sign [eB b, eR st, x, y, l] S = bsx "cell" S := by
  have il := is_letter_ok (S := S) hl
  rw [h] at il
  have lo := look_open_ok (S := S) W V hx hy
  rw [hc] at lo
  have fx := Od_fz hx
  have fy := Od_fz hy
  have fl := hl.fz
  simp [F_with_sign, dFun_eq, b_with_sign, fx, fy, fl, il, lo]
  rw [gcX_same (by simp)]
omit W V in
theorem one_ch {s : Nat} : isOne LT3 (ch s) = decide (s ∈ [100, 115, 117]) := by
  show decide ((⟨#[s]⟩ : Str) ∈ LT3) = _
  have e : LT3 = [100, 115, 117].map fun c => Sx [c] := rfl
  rw [e]
  apply decide_eq_decide.mpr
  rw [show (⟨#[s]⟩ : Str) = Sx [s] from rfl]
  simp
theorem with_sign_ok {i j s : Nat} (hi : i < r) (hj : j < c) (hs : s ∈ [100, 115, 117]) : F_with_sign [eB b, eR st, .int i, .int j, ch s] S = if at_ b i j = "" then bsx "wall" S else if s ∈ tl (at_ b i j) then .ok (eR (setSg st i j s)) S else bsx "letter" S := by
  have il := is_letter_ok (S := S) (t := ch s) ⟨rfl, fun z e => by cases e; show 1 ≤ 1000; omega⟩
  rw [one_ch, decide_eq_true hs] at il
  have hc : isCell b (.int i) (.int j) = true := isCell_nat (by rw [W.len]; exact hi) (by rw [W.wid]; exact hj)
  have lo := look_open_ok (S := S) W V (x := .int i) (y := .int j) rfl rfl
  rw [hc] at lo
  have h1 := ix_row (S := S) W.wb (r := i) (by rw [W.len]; exact hi)
  have h2 := ix_cell (S := S) W.wb (r := i) (c := j) (by rw [W.len]; exact hi) (by rw [W.wid]; exact hj)
  have ps := put_sign_ok (S := S) W V (c0 := s) hi hj
  simp only [if_true, Int.toNat_natCast] at lo
  obtain ⟨k, hk⟩ : ∃ k, at_ b i j = k := ⟨_, rfl⟩
  simp only [hk] at h2 lo ⊢
  by_cases h0 : k = ""
  · subst h0
    simp at lo
    simp [F_with_sign, dFun_eq, b_with_sign, il, lo]
    rw [gcX_same (by simp)]
  · rw [if_neg h0] at lo
    by_cases h3 : s ∈ tl k
    · simp [F_with_sign, dFun_eq, b_with_sign, il, lo, h1, h2, h3, h0, ps]
      rw [gcT_same lt_eR]
    · simp [F_with_sign, dFun_eq, b_with_sign, il, lo, h1, h2, h3, h0]
      rw [gcX_same (by simp)]
end
end Bd

/-! the law's edges: parts -/
namespace Bd
open PySem PySem.Spec L2 Dn Pk
/-! ### texts held against one another -/
theorem lay_strs : ∀ l : List Str, (∀ z ∈ l, PyData.strOk z = true) → PyData.canLayAll0 (T.dats (l.map T.str)) = true ∧ PyData.depthAll (T.dats (l.map T.str)) ≤ 1
  | [], _ => by simp [T.dats, PyData.canLayAll0, PyData.depthAll]
  | c :: l, h => by
    obtain ⟨h1, h2⟩ := lay_strs l fun d hd => h d (List.mem_cons_of_mem _ hd)
    have := h c List.mem_cons_self
    constructor
    · simp [T.dat, T.dats, PyData.canLayAll0, PyData.canLay0, h1, this]
    · simp only [List.map_cons, T.dats, PyData.depthAll, T.dat, PyData.depth]
      omega
theorem eqv_strs : ∀ l m : List Str, PyData.eqvAll (T.dats (l.map T.str)) (T.dats (m.map T.str)) = decide (l = m)
  | [], [] => rfl
  | [], _ :: _ => by simp [T.dats, PyData.eqvAll]
  | _ :: _, [] => by simp [T.dats, PyData.eqvAll]
  | a :: l, b :: m => by
    rw [List.map_cons, List.map_cons, T.dats, T.dats, PyData.eqvAll, eqv_strs l m]
    have e : PyData.eqv (T.str a).dat (T.str b).dat = decide (a = b) := by
      simp only [T.dat, PyData.eqv]
      by_cases h : a = b
      · subst h; simp
      · rw [decide_eq_false h, beq_eq_false_iff_ne]; exact h
    rw [e]
    simp
theorem fEq_eR {n : Bool} {l m : List Str} {S : Sto} (hl : ∀ z ∈ l, PyData.strOk z = true) (hm : ∀ z ∈ m, PyData.strOk z = true) : fEq n (eR l) (eR m) S = .ok (.bl (if n then !decide (l = m) else decide (l = m))) S := by
  have ft : ∀ l : List Str, (∀ z ∈ l, PyData.strOk z = true) → fit (T.tup (l.map T.str)).dat = true := fun l h => by
    obtain ⟨l1, l2⟩ := lay_strs l h
    simp only [T.dat, fit, SeqAt.shaped, PyData.canLay0, l1, PyData.depth, Bool.true_and, decide_eq_true_eq]
    omega
  unfold eR
  rw [fEq_tup, ft l hl, ft m hm]
  have : PyData.eqv (T.tup (l.map T.str)).dat (T.tup (m.map T.str)).dat = decide (l = m) := by
    simp only [T.dat, PyData.eqv, eqv_strs]
  rw [this]
  rfl
theorem strOk_of {z : Str} (h : ∀ c ∈ tl z, c < 1000) : PyData.strOk z = true := by
  unfold PyData.strOk
  rw [← Array.all_toList, List.all_eq_true]
  intro c hc
  have := h c hc
  simp; omega
theorem KS_small : ∀ k ∈ KS, ∀ c ∈ tl k, c < 1000 := by decide +kernel
theorem KS_let : ∀ k ∈ KS, ∀ c ∈ tl k, c ∈ [100, 115, 117] := by decide +kernel
theorem fitc_small {k : Str} (hk : k ∈ KS) {s : Nat} (h : fitc k s = true) : s < 1000 := by
  unfold fitc at h
  split at h
  · have : s = 35 := by simpa using h
    omega
  · exact KS_small k hk s (by simpa using h)
/-! ### one place alone -/
theorem range_one {α : Type} {i : Nat} {L : List α} : ∀ n, (List.range n).flatMap (fun x => if x = i then L else []) = if i < n then L else []
  | 0 => by simp
  | n + 1 => by
    rw [List.range_succ, List.flatMap_append, range_one n]
    by_cases h1 : i < n
    · have : ¬ n = i := by omega
      have h2 : i < n + 1 := by omega
      simp [h1, h2, this]
    · by_cases h2 : n = i
      · subst h2
        simp
      · have : ¬ i < n + 1 := by omega
        simp [h1, h2, this]
section
variable {b : Brd} {st : List Str} {r c : Nat} {S : Sto} (W : KB b r c) (V : SB st r c)
include W V
theorem set_SB {i j s : Nat} (hi : i < r) : SB (setSg st i j s) r c := by
  refine ⟨by unfold setSg; rw [List.length_set, V.len], fun z hz => ?_⟩
  rcases List.mem_or_eq_of_mem_set hz with e | e
  · exact V.wid z e
  · rw [e, len_Sx, List.length_set, len_tl]
    exact srow_lenr W V hi
theorem set_sg {i j s x y : Nat} (hi : i < r) (hj : j < c) : sg (setSg st i j s) x y = if x = i then (if y = j then s else sg st x y) else sg st x y := by
  have hlen := V.len
  unfold sg setSg
  by_cases h : x = i
  · subst h
    have e : srow (st.set x (Sx ((tl (srow st x)).set j s))) x = Sx ((tl (srow st x)).set j s) := by
      unfold srow
      rw [List.getElem?_set_self (by omega)]
      rfl
    rw [e, tl_Sx, if_pos rfl]
    by_cases h2 : y = j
    · subst h2
      rw [List.getElem?_set_self (by rw [len_tl, srow_lenr W V hi]; exact hj), if_pos rfl]
      rfl
    · rw [List.getElem?_set_ne (Ne.symm h2), if_neg h2]
  · have e : srow (st.set i (Sx ((tl (srow st i)).set j s))) x = srow st x := by
      unfold srow
      rw [List.getElem?_set_ne (Ne.symm h)]
    rw [e, if_neg h]
theorem set_chg {i j s : Nat} (hi : i < r) (hj : j < c) : chg r c st (setSg st i j s) = if sg st i j = s then [] else [T.tup [.int i, .int j]] := by
  unfold chg
  have e : chr c st (setSg st i j s) = fun x => if x = i then (if sg st i j = s then [] else [T.tup [.int i, .int j]]) else [] := by
    funext x
    rw [← chr_flat]
    by_cases h : x = i
    · subst h
      rw [if_pos rfl]
      have e2 : (fun y => if sg st x y = sg (setSg st x j s) x y then [] else [T.tup [.int x, .int (y : Nat)]]) = fun y => if y = j then (if sg st x j = s then [] else [T.tup [.int x, .int j]]) else [] := by
        funext y
        rw [set_sg W V hi hj, if_pos rfl]
        by_cases h2 : y = j
        · subst h2; rw [if_pos rfl, if_pos rfl]
        · rw [if_neg h2, if_pos rfl, if_neg h2]
      rw [e2, range_one, if_pos hj]
    · rw [if_neg h]
      have e2 : (fun y => if sg st x y = sg (setSg st i j s) x y then [] else [T.tup [.int x, .int (y : Nat)]]) = fun _ => [] := by
        funext y
        rw [set_sg W V hi hj, if_neg h, if_pos rfl]
      rw [e2]
      simp
  rw [e, range_one, if_pos hi]
theorem set_eq {i j s : Nat} (hi : i < r) (hj : j < c) : (setSg st i j s = st) ↔ sg st i j = s := by
  constructor
  · intro h
    have := set_sg W V (s := s) (x := i) (y := j) hi hj
    rw [h, if_pos rfl, if_pos rfl] at this
    exact this
  · intro h
    have hlen := V.len
    unfold setSg
    have hl := srow_lenr W V hi
    have e : (tl (srow st i)).set j s = tl (srow st i) := by
      subst h
      unfold sg
      apply List.ext_getElem?
      intro m
      by_cases hm : m = j
      · subst hm
        rw [List.getElem?_set_self (by rw [len_tl]; omega), List.getElem?_eq_getElem (by rw [len_tl]; omega)]
        rfl
      · rw [List.getElem?_set_ne (Ne.symm hm)]
    rw [e, Sx_tl]
    apply List.ext_getElem?
    intro m
    by_cases hm : m = i
    · subst hm
      unfold srow
      rw [List.getElem?_set_self (by omega), List.getElem?_eq_getElem (by omega)]
      rfl
    · rw [List.getElem?_set_ne (Ne.symm hm)]
theorem small_of (R : Rt b st) : ∀ z ∈ st, ∀ s ∈ tl z, s < 1000 := by
  intro z hz s hs
  obtain ⟨i, hi, rfl⟩ := List.mem_iff_getElem.mp hz
  obtain ⟨j, hj, rfl⟩ := List.mem_iff_getElem.mp hs
  have hir : i < r := by rw [← V.len]; exact hi
  have hw := V.wid _ (List.getElem_mem hi)
  have hjc : j < c := by rw [len_tl, hw] at hj; exact hj
  have e : sg st i j = (tl st[i])[j] := by
    unfold sg srow
    rw [List.getElem?_eq_getElem hi]
    simp only [Option.getD_some]
    rw [List.getElem?_eq_getElem hj]
    rfl
  rw [← e]
  have hil : i < b.length := by rw [W.len]; exact hir
  have hjw : j < wd b := by rw [W.wid]; exact hjc
  exact fitc_small (at_KS W hil hjw) (R i hil j hjw)
theorem ok_of (R : Rt b st) : ∀ z ∈ st, PyData.strOk z = true := fun z hz => strOk_of (small_of W V R z hz)
theorem ok_set (R : Rt b st) {i j s : Nat} (hi : i < r) (hs : s < 1000) : ∀ z ∈ setSg st i j s, PyData.strOk z = true := by
  intro z hz
  refine strOk_of fun x hx => ?_
  rcases List.mem_or_eq_of_mem_set hz with e | e
  · exact small_of W V R z e x hx
  · rw [e, tl_Sx] at hx
    rcases List.mem_or_eq_of_mem_set hx with e2 | e2
    · have : srow st i ∈ st := by
        unfold srow
        rw [List.getElem?_eq_getElem (by rw [V.len]; exact hi)]
        exact List.getElem_mem _
      exact small_of W V R _ this x e2
    · rw [e2]; exact hs
end
/-! ### drawn from a list, from a text -/
theorem from_ref {S : Sto} (hw : Cw S) {X : Sto} {m : Nat} {ts : List T} (hX : X[m]? = some (.lst ts)) (h0 : 0 < ts.length) (hn : ts.length ≤ 1000000) (hl : T.lts 0 ts = true) : ∃ (t : T) (S1 : Sto), F__law_from_v1 [.ref 1, .ref (S.length + m)] (S ++ X) = .ok t (S1 ++ X) ∧ t ∈ ts ∧ Ch S S1 := by
  obtain ⟨i, S1, e1, e2, w⟩ := pull_nat hw X ts.length h0 (by omega)
  have g : ∀ S' : Sto, S'.length = S.length → (S' ++ X)[S.length + m]? = some (.lst ts) := fun S' h => by
    rw [List.getElem?_append_right (by omega), show S.length + m - S'.length = m by omega, hX]
  refine ⟨ts[i], S1, ?_, List.getElem_mem e2, w⟩
  have g0 := g S rfl
  have g1 := g S1 w.len
  simp [F__law_from_v1, dFun_eq, b__law_from_v1, fLen_ref g0, e1, fIx_ref g1, atI_n, List.getElem?_eq_getElem e2]
  have hlt : ts[i].lt (S ++ X).length = true := by
    rw [T.lts_all, List.all_eq_true] at hl
    exact T.lt_mono (Nat.zero_le _) (hl _ (List.getElem_mem e2))
  have hc : CutOk (S ++ X) (S1 ++ X) := by
    obtain ⟨c1, c2⟩ := w.cut
    refine ⟨by simp; omega, fun j hj o ho => ?_⟩
    by_cases h : j < S.length
    · rw [List.getElem?_append_left (by have := w.len; omega)] at ho
      rw [List.getElem?_append_left h]
      rcases c2 j h o ho with q | q
      · exact .inl q
      · exact .inr (by exact MO_lt_mono (by simp) q)
    · have := w.len
      rw [List.getElem?_append_right (by omega)] at ho
      rw [List.getElem?_append_right (by omega)]
      exact .inl (by rw [show j - S.length = j - S1.length by omega]; exact ho)
  rw [gcT_cut hc (by simpa using hlt)]
  rw [show (S ++ X).length = (S1 ++ X).length by simp [w.len], List.take_length]
theorem from_txt {S : Sto} (hw : Cw S) (X : Sto) {k : Str} (h0 : 0 < k.length) (hn : k.length ≤ 1000) : ∃ (s : Nat) (S1 : Sto), F__law_from_v1 [.ref 1, .str k] (S ++ X) = .ok (ch s) (S1 ++ X) ∧ s ∈ tl k ∧ Ch S S1 := by
  obtain ⟨i, S1, e1, e2, w⟩ := pull_nat hw X k.length h0 (by omega)
  have hk : k.length ≤ 16777216 := by omega
  have f := fIx_str (S := S1 ++ X) hk e2
  refine ⟨_, S1, ?_, tl_mem e2, w⟩
  simp [F__law_from_v1, dFun_eq, b__law_from_v1, hk, e1, f]
  have hc : CutOk (S ++ X) (S1 ++ X) := by
    obtain ⟨c1, c2⟩ := w.cut
    refine ⟨by simp; omega, fun j hj o ho => ?_⟩
    by_cases h : j < S.length
    · rw [List.getElem?_append_left (by have := w.len; omega)] at ho
      rw [List.getElem?_append_left h]
      rcases c2 j h o ho with q | q
      · exact .inl q
      · exact .inr (by exact MO_lt_mono (by simp) q)
    · have := w.len
      rw [List.getElem?_append_right (by omega)] at ho
      rw [List.getElem?_append_right (by omega)]
      exact .inl (by rw [show j - S.length = j - S1.length by omega]; exact ho)
  rw [gcT_cut hc rfl]
  rw [show (S ++ X).length = (S1 ++ X).length by simp [w.len], List.take_length]
end Bd

/-! the law's edges -/
namespace Bd
open PySem PySem.Spec L2 Dn Pk
def opr (b : Brd) (i : Nat) : List T := ((List.range (wd b)).filter fun j => !decide (at_ b i j = "")).map fun j => T.tup [.int i, .int (j : Nat)]
def opn (b : Brd) : List T := (List.range b.length).flatMap (opr b)
theorem opr_len {b : Brd} {i : Nat} : (opr b i).length ≤ wd b := by
  unfold opr
  rw [List.length_map]
  exact Nat.le_trans (List.length_filter_le _ _) (by simp)
theorem opn_mem {b : Brd} {t : T} (h : t ∈ opn b) : ∃ i j : Nat, t = .tup [.int i, .int j] ∧ i < b.length ∧ j < wd b ∧ at_ b i j ≠ "" := by
  obtain ⟨i, hi, h2⟩ := List.mem_flatMap.mp h
  obtain ⟨j, hj, rfl⟩ := List.mem_map.mp h2
  rw [List.mem_filter] at hj
  exact ⟨i, j, rfl, List.mem_range.mp hi, List.mem_range.mp hj.1, by simpa using hj.2⟩
theorem opn_pos {b : Brd} {r c : Nat} (W : KB b r c) (h : Some1 b) : 0 < (opn b).length := by
  obtain ⟨q, hq, k, hk, h0⟩ := h
  obtain ⟨i, hi, rfl⟩ := List.mem_iff_getElem.mp hq
  obtain ⟨j, hj, rfl⟩ := List.mem_iff_getElem.mp hk
  have hl : (b[i]).length = wd b := W.wb.rect _ hq
  have e : at_ b i j = b[i][j] := by
    unfold at_ row
    rw [List.getElem?_eq_getElem hi]
    simp only [Option.getD_some]
    rw [List.getElem?_eq_getElem hj]
    rfl
  have : T.tup [.int (i : Nat), .int (j : Nat)] ∈ opn b := List.mem_flatMap.mpr ⟨i, List.mem_range.mpr hi, List.mem_map.mpr ⟨j, by rw [List.mem_filter]; exact ⟨List.mem_range.mpr (by omega), by rw [e]; simpa using h0⟩, rfl⟩⟩
  exact List.length_pos_of_mem this
theorem flat_len {n m : Nat} {f : Nat → List T} (h : ∀ i, (f i).length ≤ m) : ((List.range n).flatMap f).length ≤ n * m := by
  induction n with
  | zero => simp
  | succ n ih =>
    rw [List.range_succ, List.flatMap_append, List.length_append, Nat.succ_mul]
    have := h n
    rw [List.flatMap_cons, List.flatMap_nil, List.append_nil]
    omega
theorem chg_len {r c : Nat} {one other : List Str} : (chg r c one other).length ≤ r * c := flat_len fun _ => chr_len
theorem chg_lt {n r c : Nat} {one other : List Str} : T.lts n (chg r c one other) = true := by
  refine T.lts_mono (Nat.zero_le _) (lts_of fun t ht => ?_)
  obtain ⟨i, _, hi⟩ := List.mem_flatMap.mp ht
  obtain ⟨j, _, rfl⟩ := List.mem_map.mp hi
  rfl
theorem opn_lt {n : Nat} {b : Brd} : T.lts n (opn b) = true := by
  refine T.lts_mono (Nat.zero_le _) (lts_of fun t ht => ?_)
  obtain ⟨i, j, rfl, _⟩ := opn_mem ht
  rfl
theorem chg_self {r c : Nat} {one : List Str} : chg r c one one = [] := by
  unfold chg chr
  simp
theorem cells_Dt {l : List T} (h : ∀ t ∈ l, ∃ i j : Int, t = .tup [.int i, .int j]) : Dt (.tup l) = true ∧ sz (.tup l) = 1 + 3 * l.length := by
  constructor
  · simp only [Dt]
    refine Dts_all.mpr fun t ht => ?_
    obtain ⟨i, j, rfl⟩ := h t ht
    simp [Dt, Dts]
  · simp only [sz, szs_sum]
    induction l with
    | nil => rfl
    | cons t l ih =>
      obtain ⟨i, j, rfl⟩ := h t List.mem_cons_self
      have := ih fun u hu => h u (List.mem_cons_of_mem _ hu)
      rw [List.map_cons, List.sum_cons, List.length_cons]
      have e : sz (T.tup [.int i, .int j]) = 3 := by simp [sz, szs]
      rw [e]
      omega
theorem same_cells {l : List T} {S : Sto} (h : ∀ t ∈ l, ∃ i j : Int, t = .tup [.int i, .int j]) (hl : l.length ≤ 20000) : F__law_same_v1 [.tup l, .tup l] S = .ok (.bl true) S := by
  obtain ⟨h1, h2⟩ := cells_Dt h
  exact same_ok h1 (by rw [h2]; omega)
theorem chg_cells {r c : Nat} {one other : List Str} : ∀ t ∈ chg r c one other, ∃ i j : Int, t = .tup [.int i, .int j] := by
  intro t ht
  obtain ⟨i, _, hi⟩ := List.mem_flatMap.mp ht
  obtain ⟨j, _, rfl⟩ := List.mem_map.mp hi
  exact ⟨_, _, rfl⟩
abbrev shE (b : Brd) (x2 x3 x4 x5 x6 x7 x8 x9 x10 x11 x12 : Option T) : Sl := [some (.ref 1), some (eB b), x2, x3, x4, x5, x6, x7, x8, x9, x10, x11, x12]
section
variable {b : Brd} {r c : Nat} {S : Sto} (W : KB b r c)
include W
theorem len0 {S : Sto} : fLen [eB b] S = .ok (.int r) S := by
  have := W.len
  have := W.pos
  have hr16 : r ≤ 16777216 := by omega
  simp [W.len]
theorem due5 {one other : List Str} (V : SB one r c) (V2 : SB other r c) {x2 x3 x8 : Option T} :
    ∃ y7 y8, (dFor (dRng1 (dCons (dCall fLen (dCons (dVar 1) dNil)) dNil)) (gN 7) L__law_edges_5) (shE b x2 x3 (some (eR one)) (some (eR other)) (some (.ref S.length)) none x8 none none none none) (S ++ [.lst []]) = .nx (shE b x2 x3 (some (eR one)) (some (eR other)) (some (.ref S.length)) y7 y8 none none none none) (S ++ [.lst (chg r c one other)]) := by
  obtain ⟨p1, p2, p3, p4⟩ := W.pos
  have hlen := W.len
  have hwid := W.wid
  let sh := fun (x7 x8 : Option T) => shE b x2 x3 (some (eR one)) (some (eR other)) (some (.ref S.length)) x7 x8 none none none none
  have inner : ∀ i, i < r → ∀ acc x8, C__law_edges_4 (sh (some (.int (i : Nat))) x8) (S ++ [.lst acc]) = .ok (.nlst (chr c one other i)) (S ++ [.lst acc]) := by
    intro i hi acc x8
    unfold C__law_edges_4
    rw [dLc_eq _ _ _ _ _ _ _ (dRng1_eq (S1 := S ++ [.lst acc]) (n := c) (by simp [sh, ix_row0 W.wb, wd0, hwid]) (by omega))]
    rw [lcL_map still_none (fun k : Nat => T.int k) (fun j => !decide (sg one i j = sg other i j)) (fun j => T.tup [.int i, .int (j : Nat)]) (List.range c) [] ?_ (by simp; omega)]
    · rfl
    · intro j hj
      have hj' : j < c := by simpa using hj
      refine ⟨sh (some (.int (i : Nat))) (some (.int (j : Nat))), by simp [sh, wipeT], ?_, fun _ => ⟨T.tup [.int i, .int (j : Nat)], by simp [sh], rfl⟩⟩
      have a1 := fun S => st_ixr (S := S) W V hi
      have a2 := fun S => st_ixr (S := S) W V2 hi
      have b1 := fun S => st_cellr (S := S) W V hi hj'
      have b2 := fun S => st_cellr (S := S) W V2 hi hj'
      simp [sh, a1, a2, b1, b2]
  obtain ⟨sl', q1, y7, y8, rfl⟩ := for_app (S := S) (src := none) (all := (List.range r).map fun k => T.int (k : Nat)) (g := gN 7) (b := L__law_edges_5) (fun k : Nat => T.int k) (chr c one other) (fun sl => ∃ x7 x8, sl = sh x7 x8) 100 20000 (fun _ => trivial)
    (List.range r) [] (sh none x8) (fun i _ => Nat.le_trans chr_len p4) (fun i hi acc sl ⟨x7, x8, e⟩ hl => by
      subst e
      have h := inner i (by simpa using hi) acc x8
      have hl2 : (chr c one other i).length ≤ 100 := Nat.le_trans chr_len p4
      generalize chr c one other i = G at h hl2
      have hz : acc.length + G.length ≤ 16777216 := by omega
      refine ⟨_, _, sh (some (.int (i : Nat))) x8, gN_eq _, .inl ?_, _, _, rfl⟩
      simp only [sh] at h
      simp [L__law_edges_5, sh, h, hz]) (by simp; omega) ⟨_, _, rfl⟩
  have hr := dFor_eq (dRng1 (dCons (dCall fLen (dCons (dVar 1) dNil)) dNil)) (gN 7) L__law_edges_5 (sh none x8) (S ++ [.lst []]) (dRng1_eq (S1 := S ++ [.lst []]) (n := r) (by simp [sh, hlen]) (by omega))
  rw [List.nil_append] at q1
  exact ⟨y7, y8, hr.trans q1⟩
theorem opn7 {x2 x3 x4 x5 x6 x7 x8 : Option T} :
    ∃ y7 y8, (dFor (dRng1 (dCons (dCall fLen (dCons (dVar 1) dNil)) dNil)) (gN 7) L__law_edges_7) (shE b x2 x3 x4 x5 x6 x7 x8 (some (.ref S.length)) none none none) (S ++ [.lst []]) = .nx (shE b x2 x3 x4 x5 x6 y7 y8 (some (.ref S.length)) none none none) (S ++ [.lst (opn b)]) := by
  obtain ⟨p1, p2, p3, p4⟩ := W.pos
  have hlen := W.len
  have hwid := W.wid
  let sh := fun (x7 x8 : Option T) => shE b x2 x3 x4 x5 x6 x7 x8 (some (.ref S.length)) none none none
  have inner : ∀ i, i < b.length → ∀ acc x8, C__law_edges_6 (sh (some (.int (i : Nat))) x8) (S ++ [.lst acc]) = .ok (.nlst (opr b i)) (S ++ [.lst acc]) := by
    intro i hi acc x8
    unfold C__law_edges_6
    rw [dLc_eq _ _ _ _ _ _ _ (dRng1_eq (S1 := S ++ [.lst acc]) (n := wd b) (by simp [sh, ix_row0 W.wb, wd0]) (by omega))]
    rw [lcL_map still_none (fun k : Nat => T.int k) (fun j => !decide (at_ b i j = "")) (fun j => T.tup [.int i, .int (j : Nat)]) (List.range (wd b)) [] ?_ (by simp; omega)]
    · rfl
    · intro j hj
      have hj' : j < wd b := by simpa using hj
      refine ⟨sh (some (.int (i : Nat))) (some (.int (j : Nat))), by simp [sh, wipeT], ?_, fun _ => ⟨T.tup [.int i, .int (j : Nat)], by simp [sh], rfl⟩⟩
      simp [sh, ix_row W.wb hi, ix_cell W.wb hi hj']
  obtain ⟨sl', q1, y7, y8, rfl⟩ := for_app (S := S) (src := none) (all := (List.range r).map fun k => T.int (k : Nat)) (g := gN 7) (b := L__law_edges_7) (fun k : Nat => T.int k) (opr b) (fun sl => ∃ x7 x8, sl = sh x7 x8) 100 20000 (fun _ => trivial)
    (List.range r) [] (sh x7 x8) (fun i _ => Nat.le_trans opr_len (by omega)) (fun i hi acc sl ⟨x7, x8, e⟩ hl => by
      subst e
      have h := inner i (by have : i < r := by simpa using hi
                            omega) acc x8
      have hl2 : (opr b i).length ≤ 100 := Nat.le_trans opr_len (by omega)
      generalize opr b i = G at h hl2
      have hz : acc.length + G.length ≤ 16777216 := by omega
      refine ⟨_, _, sh (some (.int (i : Nat))) x8, gN_eq _, .inl ?_, _, _, rfl⟩
      simp only [sh] at h
      simp [L__law_edges_7, sh, h, hz]) (by simp; omega) ⟨_, _, rfl⟩
  have hr := dFor_eq (dRng1 (dCons (dCall fLen (dCons (dVar 1) dNil)) dNil)) (gN 7) L__law_edges_7 (sh x7 x8) (S ++ [.lst []]) (dRng1_eq (S1 := S ++ [.lst []]) (n := r) (by simp [sh, hlen]) (by omega))
  rw [List.nil_append] at q1
  refine ⟨y7, y8, hr.trans ?_⟩
  rw [q1]
  unfold opn
  rw [hlen]
theorem edges_ok (h1 : Some1 b) (hw : Cw S) : ∃ S1, F__law_edges [.ref 1, eB b] S = .ok (.bl true) S1 ∧ Ch S S1 := by
  obtain ⟨p1, p2, p3, p4⟩ := W.pos
  have hlen := W.len
  have hwid := W.wid
  have hr16 : r ≤ 16777216 := by omega
  have hc16 : c ≤ 16777216 := by omega
  obtain ⟨one, S1, e1, V, R, w1⟩ := law_setting_ok W hw
  obtain ⟨oth, S2, e2, V2, R2, w2⟩ := law_setting_ok W w1.w
  obtain ⟨n, hn⟩ : ∃ n, S2.length = n := ⟨_, rfl⟩
  have hG := chg_len (r := r) (c := c) (one := one) (other := oth)
  have hGl := fun n => chg_lt (n := n) (r := r) (c := c) (one := one) (other := oth)
  have hGc := chg_cells (r := r) (c := c) (one := one) (other := oth)
  have hrc : r * c ≤ 10000 := Nat.mul_le_mul p3 p4
  let x2 := some (eR (edg frs b))
  let x3 := some (eR (edg lss b))
  obtain ⟨y7, y8, f5⟩ := due5 (S := S2) W V V2 (x2 := x2) (x3 := x3) (x8 := none)
  rw [hn] at f5
  obtain ⟨G, hGe⟩ : ∃ G, chg r c one oth = G := ⟨_, rfl⟩
  have ch1 := fun S => changed_ok (S := S) W V V2
  have ch2 := fun S => changed_ok (S := S) W V2 V2
  rw [hGe] at hG hGl hGc f5
  simp only [hGe] at ch1
  simp only [chg_self] at ch2
  obtain ⟨i, S3, e3, l3, w3⟩ := pull_nat w2.w [.lst G] r p1 (by omega)
  obtain ⟨j, S4, e4, l4, w4⟩ := pull_nat w3.w [.lst G] c p2 (by omega)
  have n4 : S4.length = n := by rw [w4.len, w3.len, hn]
  have n3 : S3.length = n := by rw [w3.len, hn]
  have n41 : (S4 ++ [MO.lst G]).length = n + 1 := by simp [n4]
  obtain ⟨z7, z8, f7⟩ := opn7 (S := S4 ++ [.lst G]) W (x2 := x2) (x3 := x3) (x4 := some (eR one)) (x5 := some (eR oth)) (x6 := some (.ref n)) (x7 := some (.int i)) (x8 := some (.int j))
  rw [n41] at f7
  have hO1 := opn_pos W h1
  have hO2 : (opn b).length ≤ b.length * wd b := flat_len fun _ => opr_len
  rw [hlen, hwid] at hO2
  have hO3 := opn_lt (n := 0) (b := b)
  obtain ⟨t5, S5, e5, m5, w5⟩ := from_ref w4.w (X := [.lst G, .lst (opn b)]) (m := 1) rfl hO1 (by omega) hO3
  rw [n4] at e5
  obtain ⟨u, v, rfl, hu, hv, hk0⟩ := opn_mem m5
  rw [hlen] at hu
  rw [hwid] at hv
  have hkK := at_KS W (i := u) (j := v) (by omega) (by omega)
  have hkl := KS_len _ hkK
  have hkp : 0 < (at_ b u v).length := by
    rw [← len_tl]
    exact List.length_pos_iff.mpr fun z => hk0 (ne_tl.mpr z)
  obtain ⟨s, S6, e6, m6, w6⟩ := from_txt w5.w [.lst G, .lst (opn b)] (k := at_ b u v) hkp (by omega)
  have hs := KS_let _ hkK s m6
  have hs1 : s < 1000 := KS_small _ hkK s m6
  have V6 := set_SB W V (i := u) (j := v) (s := s) hu
  have ws : ∀ S, F_with_sign [eB b, eR one, .int u, .int v, ch s] S = .ok (eR (setSg one u v s)) S := fun S => by
    rw [with_sign_ok W V hu hv hs, if_neg hk0, if_pos m6]
  have ch3 := fun S => changed_ok (S := S) W V V6
  simp only [set_chg W V hu hv] at ch3
  have fq : ∀ S, fEq true (eR (setSg one u v s)) (eR one) S = .ok (.bl (!decide (sg one u v = s))) S := fun S => by
    rw [fEq_eR (ok_set W V R hu hs1) (ok_of W V R)]
    have := set_eq W V (s := s) hu hv
    simp [this]
  have w06 := ((((w1.trans w2).trans w3).trans w4).trans w5).trans w6
  have hel : (edg frs b).length = r := by unfold edg; rw [List.length_map, hlen]
  have hel2 : (edg lss b).length = r := by unfold edg; rw [List.length_map, hlen]
  have ha := edge1_ok (S := S) W (x2 := none)
  have hb := edge3_ok (S := S) W (x2 := x2)
  have g1 := first_ok (S := S) W
  have g2 := last_ok (S := S) W
  have sm : ∀ S, F__law_same_v1 [.tup [eR (edg frs b), eR (edg lss b)], .tup [eR (edg frs b), eR (edg lss b)]] S = .ok (.bl true) S := fun S => same_ok (by simp [Dt, Dts, Dt_eR']) (by simp [sz, szs, sz_eR']; omega)
  have i2 : dSet 2 (dCall fTuple (dCons C__law_edges_1 dNil)) (shE b none none none none none none none none none none none) S = .nx (shE b x2 none none none none none none none none none none) S := by
    simp only [shE, dSet_eq, dCall_eq, dCons_eq, ha, dNil_eq, RE.consA_ok, RA.cons_ok, RA.bind_ok, fz_nlst, fTuple_lst, RE.toS_ok]
    rfl
  have i3 : dSet 3 (dCall fTuple (dCons C__law_edges_3 dNil)) (shE b x2 none none none none none none none none none none) S = .nx (shE b x2 x3 none none none none none none none none none) S := by
    simp only [shE, dSet_eq, dCall_eq, dCons_eq, hb, dNil_eq, RE.consA_ok, RA.cons_ok, RA.bind_ok, fz_nlst, fTuple_lst, RE.toS_ok]
    rfl
  have i4 : (dIf (dNot (dTru (dOwn 2 F__law_same_v1 (dCons (dTup (dCons (dOwn 1 F_first_setting (dCons (dVar 1) dNil)) (dCons (dOwn 1 F_last_setting (dCons (dVar 1) dNil)) dNil))) (dCons (dTup (dCons (dVar 2) (dCons (dVar 3) dNil))) dNil))))) (dRet (dC (.bl false))) dNext) (shE b x2 x3 none none none none none none none none none) S = .nx (shE b x2 x3 none none none none none none none none none) S := by
    simp [shE, x2, x3, g1, g2, sm]
  have i5 : dSet 4 (dOwn 2 F__law_setting_v1 (dCons (dVar 0) (dCons (dVar 1) dNil))) (shE b x2 x3 none none none none none none none none none) S = .nx (shE b x2 x3 (some (eR one)) none none none none none none none none) S1 := by simp [shE, e1]
  have i6 : dSet 5 (dOwn 2 F__law_setting_v1 (dCons (dVar 0) (dCons (dVar 1) dNil))) (shE b x2 x3 (some (eR one)) none none none none none none none none) S1 = .nx (shE b x2 x3 (some (eR one)) (some (eR oth)) none none none none none none none) S2 := by simp [shE, e2]
  have i7 : dSetM 6 (dLst dNil) (shE b x2 x3 (some (eR one)) (some (eR oth)) none none none none none none none) S2 = .nx (shE b x2 x3 (some (eR one)) (some (eR oth)) (some (.ref n)) none none none none none none) (S2 ++ [.lst []]) := by simp [shE, hn]
  have gt : (S2 ++ [MO.lst G])[n]? = some (.lst G) := by rw [← hn]; exact top_get
  have sG : ∀ S, F__law_same_v1 [.tup G, .tup G] S = .ok (.bl true) S := fun S => same_cells hGc (by omega)
  have s0 : ∀ S, F__law_same_v1 [.tup [], .tup []] S = .ok (.bl true) S := fun S => same_cells (l := []) (by simp) (by simp)
  have i8 : (dIf (dOr (dNot (dTru (dOwn 2 F__law_same_v1 (dCons (dOwn 2 F_changed_cells (dCons (dVar 4) (dCons (dVar 5) dNil))) (dCons (dCall fTuple (dCons (dVar 6) dNil)) dNil))))) (dNot (dTru (dOwn 2 F__law_same_v1 (dCons (dOwn 2 F_changed_cells (dCons (dVar 5) (dCons (dVar 5) dNil))) (dCons (dTup dNil) dNil)))))) (dRet (dC (.bl false))) dNext) (shE b x2 x3 (some (eR one)) (some (eR oth)) (some (.ref n)) y7 y8 none none none none) (S2 ++ [.lst G]) = .nx (shE b x2 x3 (some (eR one)) (some (eR oth)) (some (.ref n)) y7 y8 none none none none) (S2 ++ [.lst G]) := by
    simp [shE, ch1, ch2, fTuple_ref gt, sG, s0]
  have i9 : dSet 7 (dOwn 2 F__law_pull_v1 (dCons (dVar 0) (dCons (dCall fLen (dCons (dVar 1) dNil)) dNil))) (shE b x2 x3 (some (eR one)) (some (eR oth)) (some (.ref n)) y7 y8 none none none none) (S2 ++ [.lst G]) = .nx (shE b x2 x3 (some (eR one)) (some (eR oth)) (some (.ref n)) (some (.int i)) y8 none none none none) (S3 ++ [.lst G]) := by simp [shE, hlen, e3]
  have r0 := fun S => ix_row0 (S := S) W.wb
  have i10 : dSet 8 (dOwn 2 F__law_pull_v1 (dCons (dVar 0) (dCons (dCall fLen (dCons (dBin fIx (dVar 1) (dC (.int 0))) dNil)) dNil))) (shE b x2 x3 (some (eR one)) (some (eR oth)) (some (.ref n)) (some (.int i)) y8 none none none none) (S3 ++ [.lst G]) = .nx (shE b x2 x3 (some (eR one)) (some (eR oth)) (some (.ref n)) (some (.int i)) (some (.int j)) none none none none) (S4 ++ [.lst G]) := by simp [shE, r0, wd0, hwid, hc16, e4]
  have la := fun S => letter_at_ok (S := S) W V l3 l4
  have a1 := fun S => st_ixr (S := S) W V l3
  have b1 := fun S => st_cellr (S := S) W V l3 l4
  have sc : ∀ k S, F__law_same_v1 [ch k, ch k] S = .ok (.bl true) S := fun k S => same_ok (by simp [Dt]) (by simp [sz])
  have i11 : (dIf (dNot (dTru (dOwn 2 F__law_same_v1 (dCons (dOwn 3 F_letter_at (dCons (dVar 4) (dCons (dVar 7) (dCons (dVar 8) dNil)))) (dCons (dBin fIx (dBin fIx (dVar 4) (dVar 7)) (dVar 8)) dNil))))) (dRet (dC (.bl false))) dNext) (shE b x2 x3 (some (eR one)) (some (eR oth)) (some (.ref n)) (some (.int i)) (some (.int j)) none none none none) (S4 ++ [.lst G]) = .nx (shE b x2 x3 (some (eR one)) (some (eR oth)) (some (.ref n)) (some (.int i)) (some (.int j)) none none none none) (S4 ++ [.lst G]) := by
    simp [shE, la, a1, b1, sc]
  have i12 : dSetM 9 (dLst dNil) (shE b x2 x3 (some (eR one)) (some (eR oth)) (some (.ref n)) (some (.int i)) (some (.int j)) none none none none) (S4 ++ [.lst G]) = .nx (shE b x2 x3 (some (eR one)) (some (eR oth)) (some (.ref n)) (some (.int i)) (some (.int j)) (some (.ref (n + 1))) none none none) ((S4 ++ [.lst G]) ++ [.lst []]) := by simp [shE, n4]
  have as2 : (S4 ++ [MO.lst G]) ++ [MO.lst (opn b)] = S4 ++ [MO.lst G, MO.lst (opn b)] := by simp
  have i13 : dAsg (dOwn 2 F__law_from_v1 (dCons (dVar 0) (dCons (dVar 9) dNil))) (gT 2 (gsCons (gN 7) (gsCons (gN 8) gsNil))) (shE b x2 x3 (some (eR one)) (some (eR oth)) (some (.ref n)) z7 z8 (some (.ref (n + 1))) none none none) ((S4 ++ [.lst G]) ++ [.lst (opn b)]) = .nx (shE b x2 x3 (some (eR one)) (some (eR oth)) (some (.ref n)) (some (.int u)) (some (.int v)) (some (.ref (n + 1))) none none none) (S5 ++ [.lst G, .lst (opn b)]) := by
    rw [as2]
    simp [shE, e5]
  have hul : u < b.length := by omega
  have hvl : v < wd b := by omega
  have r1 := fun S => ix_row (S := S) W.wb hul
  have r2 := fun S => ix_cell (S := S) W.wb hul hvl
  have i14 : dSet 10 (dOwn 2 F__law_from_v1 (dCons (dVar 0) (dCons (dBin fIx (dBin fIx (dVar 1) (dVar 7)) (dVar 8)) dNil))) (shE b x2 x3 (some (eR one)) (some (eR oth)) (some (.ref n)) (some (.int u)) (some (.int v)) (some (.ref (n + 1))) none none none) (S5 ++ [.lst G, .lst (opn b)]) = .nx (shE b x2 x3 (some (eR one)) (some (eR oth)) (some (.ref n)) (some (.int u)) (some (.int v)) (some (.ref (n + 1))) (some (ch s)) none none) (S6 ++ [.lst G, .lst (opn b)]) := by simp [shE, r1, r2, e6]
  have i15 : dSet 11 (dBin fAdd (dBin fAdd (dSl (dVar 4) dNoPart (dPart (dVar 7))) (dTup (dCons (dBin fAdd (dBin fAdd (dSl (dBin fIx (dVar 4) (dVar 7)) dNoPart (dPart (dVar 8))) (dVar 10)) (dSl (dBin fIx (dVar 4) (dVar 7)) (dPart (dBin fAdd (dVar 8) (dC (.int 1)))) dNoPart)) dNil))) (dSl (dVar 4) (dPart (dBin fAdd (dVar 7) (dC (.int 1)))) dNoPart)) (shE b x2 x3 (some (eR one)) (some (eR oth)) (some (.ref n)) (some (.int u)) (some (.int v)) (some (.ref (n + 1))) (some (ch s)) none none) (S6 ++ [.lst G, .lst (opn b)]) = .nx (shE b x2 x3 (some (eR one)) (some (eR oth)) (some (.ref n)) (some (.int u)) (some (.int v)) (some (.ref (n + 1))) (some (ch s)) (some (eR (setSg one u v s))) none) (S6 ++ [.lst G, .lst (opn b)]) := by
    generalize S6 ++ [MO.lst G, .lst (opn b)] = SS
    have aa := fun S => st_ixr (S := S) W V hu
    have hl := srow_lenr W V hu
    have hln : one.length = r := V.len
    have q1 := setSg_line W V (c0 := s) hu hv
    have q2 := setSg_tup W V (j := v) (c0 := s) hu
    have k1 := cut_len (z := srow one u) (lo := none) (hi := some (v : Int))
    have k2 := cut_len (z := srow one u) (lo := some ((v : Int) + 1)) (hi := none)
    generalize srow one u = z at aa hl q1 q2 k1 k2
    have y0 : z.length ≤ 16777216 := by omega
    have y1 : (cutS z none (some (v : Int))).length ≤ 16777215 := by omega
    have y2 : (cutS z none (some (v : Int)) ++ (⟨#[s]⟩ : Str)).length + (cutS z (some ((v : Int) + 1)) none).length ≤ 16777216 := by
      have : (⟨#[s]⟩ : Str).length = 1 := rfl
      rw [cat_len]; omega
    generalize Sx ((tl z).set v s) = L at q1 q2
    have c1 : cutT (one.map T.str) none (some (u : Int)) = (one.map T.str).take u := cutT_to
    have c2 : cutT (one.map T.str) (some ((u : Int) + 1)) none = (one.map T.str).drop (u + 1) := cutT_from1
    have y3 : ((one.map T.str).take u).length + [T.str L].length ≤ sizeLine := by rw [PySem.sizeLine_eq]; simp; omega
    have y4 : ((one.map T.str).take u ++ [T.str L]).length + ((one.map T.str).drop (u + 1)).length ≤ sizeLine := by rw [PySem.sizeLine_eq]; simp; omega
    generalize (one.map T.str).take u = P at c1 q2 y3 y4
    generalize (one.map T.str).drop (u + 1) = Q at c2 q2 y4
    generalize setSg one u v s = M at q2
    have line : (dBin fAdd (dBin fAdd (dSl (dBin fIx (dVar 4) (dVar 7)) dNoPart (dPart (dVar 8))) (dVar 10)) (dSl (dBin fIx (dVar 4) (dVar 7)) (dPart (dBin fAdd (dVar 8) (dC (.int 1)))) dNoPart)) (shE b x2 x3 (some (eR one)) (some (eR oth)) (some (.ref n)) (some (.int u)) (some (.int v)) (some (.ref (n + 1))) (some (ch s)) none none) SS = .ok (.str L) SS := by
      simp [shE, aa, y0, y1, y2, q1]
    generalize (dBin fAdd (dBin fAdd (dSl (dBin fIx (dVar 4) (dVar 7)) dNoPart (dPart (dVar 8))) (dVar 10)) (dSl (dBin fIx (dVar 4) (dVar 7)) (dPart (dBin fAdd (dVar 8) (dC (.int 1)))) dNoPart)) = de at line
    simp only [shE] at line ⊢
    simp only [dSet_eq, dBin_eq, dSl_eq, dVar_eq, List.getElem?_cons_zero, List.getElem?_cons_succ, varR_some, RE.bind_ok, dNoPart_eq, dPart_eq, RE.part_int, RO.bindE_ok, fz_eR, fz_int]
    simp only [eR, fSl_tup, RE.bind_ok, fz_tup, c1]
    simp only [eR] at line
    simp only [dTup_eq, dCons_eq, dNil_eq, line, RE.consA_ok, RA.cons_ok, fz_str, RA.bind_ok]
    rw [if_pos (show [T.str L].length ≤ sizeLine by rw [PySem.sizeLine_eq]; simp), RE.bind_ok, fz_tup, fAdd_tup, if_pos y3]
    simp only [RE.bind_ok, fz_tup, dC_eq, fz_int, fAdd_int, RE.part_int, RO.bindE_ok, fSl_tup, c2]
    rw [fAdd_tup, if_pos y4, List.append_assoc, List.singleton_append, q2]
    simp
  have i16 : (dAndV (dOwn 2 F__law_same_v1 (dCons (dOwn 5 F_with_sign (dCons (dVar 1) (dCons (dVar 4) (dCons (dVar 7) (dCons (dVar 8) (dCons (dVar 10) dNil)))))) (dCons (dVar 11) dNil))) (dOwn 2 F__law_same_v1 (dCons (dOwn 2 F_changed_cells (dCons (dVar 4) (dCons (dVar 11) dNil))) (dCons (dIfE (dTest (dBin (fEq true) (dVar 11) (dVar 4))) (dTup (dCons (dTup (dCons (dVar 7) (dCons (dVar 8) dNil))) dNil)) (dTup dNil)) dNil)))) (shE b x2 x3 (some (eR one)) (some (eR oth)) (some (.ref n)) (some (.int u)) (some (.int v)) (some (.ref (n + 1))) (some (ch s)) (some (eR (setSg one u v s))) none) (S6 ++ [.lst G, .lst (opn b)]) = .ok (.bl true) (S6 ++ [.lst G, .lst (opn b)]) := by
    have hl6 : (setSg one u v s).length ≤ 1000 := by rw [V6.len]; omega
    have sr := fun S => same_eR (st := setSg one u v s) (S := S) hl6
    have s1c : ∀ S, F__law_same_v1 [.tup [.tup [.int u, .int v]], .tup [.tup [.int u, .int v]]] S = .ok (.bl true) S := fun S => same_cells (by intro t ht; rw [List.mem_singleton.mp ht]; exact ⟨_, _, rfl⟩) (by simp)
    by_cases q : sg one u v = s
    · simp [q] at ch3 fq
      simp [shE, ws, sr, ch3, fq, s0]
    · simp [q] at ch3 fq
      simp [shE, ws, sr, ch3, fq, s1c]
  refine ⟨S6, ?_, w06⟩
  unfold F__law_edges
  rw [dFun_eq (np := 2) (n := 13) (ts := [.ref 1, eB b]) rfl]
  show gcR S (b__law_edges (shE b none none none none none none none none none none none) S) = _
  unfold b__law_edges
  rw [dSeq_eq, i2, RS.seq_nx, dSeq_eq, i3, RS.seq_nx, dSeq_eq, i4, RS.seq_nx, dSeq_eq, i5, RS.seq_nx, dSeq_eq, i6, RS.seq_nx, dSeq_eq, i7, RS.seq_nx, dSeq_eq, f5, RS.seq_nx, dSeq_eq, i8, RS.seq_nx, dSeq_eq, i9, RS.seq_nx, dSeq_eq, i10, RS.seq_nx, dSeq_eq, i11, RS.seq_nx, dSeq_eq, i12, RS.seq_nx, dSeq_eq, f7, RS.seq_nx, dSeq_eq, i13, RS.seq_nx, dSeq_eq, i14, RS.seq_nx, dSeq_eq, i15, RS.seq_nx, dRet_eq, i16]
  simp
  rw [w06.gcA _ rfl]
end
end Bd

/-! the law's refusals -/
namespace Bd
open PySem PySem.Spec L2 Dn Pk
theorem bs_look : List.lookup ("BadStep" : Str) [("BadSetting", false), ("BadStep", true)] = some true := rfl
section
variable {b : Brd} {st : List Str} {r c : Nat} {S : Sto} (W : KB b r c) (V : SB st r c)
include W V
theorem word0_no {x y l : T} (hx : Od x = true) (hy : Od y = true) (hl : Wv l) (h : isCell b x y = false) : F__law_word_v1 [.int 0, eB b, eR st, x, y, l] S = .ok (.str "cell") S := by
  have e := letter_at_no (S := S) W V hx hy h
  have fx := Od_fz hx
  have fy := Od_fz hy
  have fl := hl.fz
  have l3 : List.lookup ("word" : Str) [("word", T.str "cell")] = some (.str "cell") := rfl
  simp [F__law_word_v1, dFun_eq, b__law_word_v1, fx, fy, fl, e, bs_look, l3, isaB]
  rw [gcT_same (by simp)]
theorem word1_exc {x y l : T} {w : Str} (hx : Od x = true) (hy : Od y = true) (hl : Wv l) (e : F_with_sign [eB b, eR st, x, y, l] S = bsx w S) : F__law_word_v1 [.int 1, eB b, eR st, x, y, l] S = .ok (.str w) S := by
  have fx := Od_fz hx
  have fy := Od_fz hy
  have fl := hl.fz
  have l3 : List.lookup ("word" : Str) [("word", T.str w)] = some (.str w) := rfl
  simp [F__law_word_v1, dFun_eq, b__law_word_v1, fx, fy, fl, e, bs_look, l3, isaB]
  rw [gcT_same (by simp)]
theorem word1_ok {x y l u : T} (hx : Od x = true) (hy : Od y = true) (hl : Wv l) (e : F_with_sign [eB b, eR st, x, y, l] S = .ok u S) : F__law_word_v1 [.int 1, eB b, eR st, x, y, l] S = .ok (.str "") S := by
  have fx := Od_fz hx
  have fy := Od_fz hy
  have fl := hl.fz
  simp [F__law_word_v1, dFun_eq, b__law_word_v1, fx, fy, fl, e]
  rw [gcT_same (by simp)]
omit W V in
def dueW (k : Str) (s : Nat) : Str := if k = "" then "wall" else if s ∈ tl k then "" else "letter"
omit W V in
theorem Wv_ch {s : Nat} : Wv (ch s) := ⟨rfl, fun z e => by cases e; show 1 ≤ 1000; omega⟩
theorem word1_in {i j s : Nat} (hi : i < r) (hj : j < c) (hs : s ∈ [100, 115, 117]) : F__law_word_v1 [.int 1, eB b, eR st, .int i, .int j, ch s] S = .ok (.str (dueW (at_ b i j) s)) S := by
  have e := with_sign_ok (S := S) W V hi hj hs
  unfold dueW
  by_cases h0 : at_ b i j = ""
  · rw [if_pos h0] at e ⊢
    exact word1_exc W V rfl rfl Wv_ch e
  · rw [if_neg h0] at e ⊢
    by_cases h1 : s ∈ tl (at_ b i j)
    · rw [if_pos h1] at e ⊢
      exact word1_ok W V rfl rfl Wv_ch e
    · rw [if_neg h1] at e ⊢
      exact word1_exc W V rfl rfl Wv_ch e
end
abbrev shR (b : Brd) (st : List Str) (r c : Nat) (x5 x6 x7 x8 x9 x10 x11 x12 x13 : Option T) : Sl := [some (.ref 1), some (eB b), some (eR st), some (.int r), some (.int c), x5, x6, x7, x8, x9, x10, x11, x12, x13]
def wrongL (r c i j : Nat) : List T := [.tup [.int r, .int j], .tup [.int i, .int c], .tup [.int (-1), .int j], .tup [.int i, .int (-1)], .tup [.str "0", .int j], .tup [.int i, .non], .tup [.bl true, .int j], .tup [.int i, .bl false], .tup [.tup [.int 0, .int 0], .int 0], .tup [.int (10 ^ 40), .int 0], .tup [.tup [.int i, .int j], .tup [.int i, .int j]]]
def oddL : List T := [.str "x", .str "", .str "ds", .str "D", .non, .int 0, .bl true, .tup [.str "d"], .lst [.str "s"], .str "#", .str "dsu", .int (10 ^ 59)]
theorem oddL_ok : ∀ t ∈ oddL, Wv t ∧ isOne LT3 t = false := by
  intro t ht
  simp only [oddL, List.mem_cons, List.not_mem_nil, or_false] at ht
  rcases ht with rfl | rfl | rfl | rfl | rfl | rfl | rfl | rfl | rfl | rfl | rfl | rfl
  · exact ⟨⟨rfl, fun z e => by cases e; decide⟩, by decide +kernel⟩
  · exact ⟨⟨rfl, fun z e => by cases e; decide⟩, by decide +kernel⟩
  · exact ⟨⟨rfl, fun z e => by cases e; decide⟩, by decide +kernel⟩
  · exact ⟨⟨rfl, fun z e => by cases e; decide⟩, by decide +kernel⟩
  · exact ⟨⟨rfl, fun z e => by cases e⟩, rfl⟩
  · exact ⟨⟨rfl, fun z e => by cases e⟩, rfl⟩
  · exact ⟨⟨rfl, fun z e => by cases e⟩, rfl⟩
  · exact ⟨⟨rfl, fun z e => by cases e⟩, rfl⟩
  · exact ⟨⟨rfl, fun z e => by cases e⟩, rfl⟩
  · exact ⟨⟨rfl, fun z e => by cases e; decide⟩, by decide +kernel⟩
  · exact ⟨⟨rfl, fun z e => by cases e; decide⟩, by decide +kernel⟩
  · exact ⟨⟨rfl, fun z e => by cases e⟩, rfl⟩
theorem wrongL_ok {b : Brd} {r c i j : Nat} (W : KB b r c) : ∀ t ∈ wrongL r c i j, ∃ x y, t = .tup [x, y] ∧ Od x = true ∧ Od y = true ∧ isCell b x y = false := by
  obtain ⟨p1, p2, p3, p4⟩ := W.pos
  have hl := W.len
  have hw := W.wid
  intro t ht
  simp only [wrongL, List.mem_cons, List.not_mem_nil, or_false] at ht
  rcases ht with rfl | rfl | rfl | rfl | rfl | rfl | rfl | rfl | rfl | rfl | rfl
  · exact ⟨_, _, rfl, rfl, rfl, by simp [isCell]; omega⟩
  · exact ⟨_, _, rfl, rfl, rfl, by simp [isCell]; omega⟩
  · exact ⟨_, _, rfl, rfl, rfl, by simp [isCell]⟩
  · exact ⟨_, _, rfl, rfl, rfl, by simp [isCell]⟩
  · exact ⟨_, _, rfl, rfl, rfl, rfl⟩
  · exact ⟨_, _, rfl, rfl, rfl, rfl⟩
  · exact ⟨_, _, rfl, rfl, rfl, rfl⟩
  · exact ⟨_, _, rfl, rfl, rfl, rfl⟩
  · exact ⟨_, _, rfl, rfl, rfl, rfl⟩
  · exact ⟨_, _, rfl, rfl, rfl, by simp [isCell]; omega⟩
  · exact ⟨_, _, rfl, rfl, rfl, rfl⟩
section
variable {b : Brd} {st : List Str} {r c : Nat} {S : Sto} (W : KB b r c) (V : SB st r c)
include W V
theorem refused_lap {i j : Nat} (hi : i < r) (hj : j < c) (hw : Cw S) {x8 x9 : Option T} : ∃ y9 S1, L__law_refused_0 (shR b st r c (some (.tup [.int i, .int j])) (some (.tup (wrongL r c i j))) (some (.tup oddL)) x8 x9 none none none none) S = .nx (shR b st r c (some (.tup [.int i, .int j])) (some (.tup (wrongL r c i j))) (some (.tup oddL)) x8 y9 none none none none) S1 ∧ Ch S S1 := by
  have hwl : T.lts 0 (wrongL r c i j) = true := by simp [wrongL, T.lt, T.lts]
  have hol : T.lts 0 oddL = true := by simp [oddL, T.lt, T.lts]
  obtain ⟨k1, t1, S1, e1, m1, w1⟩ := from_tup hw [] (wrongL r c i j) (by simp [wrongL]) (by simp [wrongL]) hwl
  obtain ⟨x, y, rfl, hx, hy, hc⟩ := wrongL_ok W t1 (List.mem_of_getElem? m1)
  obtain ⟨s, S2, e2, m2, w2⟩ := from_txt w1.w [] (k := ("dsu" : Str)) (by decide) (by decide)
  obtain ⟨k3, l3, S3, e3, m3, w3⟩ := from_tup w2.w [] oddL (by simp [oddL]) (by simp [oddL]) hol
  obtain ⟨k4, l4, S4, e4, m4, w4⟩ := from_tup w3.w [] oddL (by simp [oddL]) (by simp [oddL]) hol
  rw [List.append_nil, List.append_nil] at e1 e2 e3 e4
  obtain ⟨g3, o3⟩ := oddL_ok l3 (List.mem_of_getElem? m3)
  obtain ⟨g4, o4⟩ := oddL_ok l4 (List.mem_of_getElem? m4)
  have hs : isOne LT3 (ch s) = true := by
    rw [one_ch]
    exact decide_eq_true m2
  have fx := Od_fz hx
  have fy := Od_fz hy
  have f3 := g3.fz
  have f4 := g4.fz
  have wd : Wv (.str "d") := ⟨rfl, fun z e => by cases e; decide⟩
  have a1 := word0_no (S := S1) W V hx hy wd hc
  have a2 := word1_exc (S := S2) W V hx hy Wv_ch (with_cell W V hx hy Wv_ch hs hc)
  have a3 := word1_exc (S := S3) W V hx hy g3 (with_letter W V hx hy g3 o3)
  have a4 := word1_exc (S := S4) W V (x := .int i) (y := .int j) rfl rfl g4 (with_letter W V rfl rfl g4 o4)
  refine ⟨some (.tup [x, y]), S4, ?_, ((w1.trans w2).trans w3).trans w4⟩
  generalize wrongL r c i j = LW at *
  generalize oddL = LO at *
  simp [L__law_refused_0, shR, e1, e2, e3, e4, fx, fy, f3, f4, a1, a2, a3, a4]
theorem refused_in {i j s : Nat} (hi : i < r) (hj : j < c) (hs : s ∈ [100, 115, 117]) {x5 x6 x7 x8 x9 x13 : Option T} : ∃ y13, L__law_refused_1 (shR b st r c x5 x6 x7 x8 x9 (some (.int i)) (some (.int j)) (some (ch s)) x13) S = .nx (shR b st r c x5 x6 x7 x8 x9 (some (.int i)) (some (.int j)) (some (ch s)) y13) S := by
  have a := word1_in (S := S) W V hi hj hs
  have h1 := ix_row (S := S) W.wb (r := i) (by rw [W.len]; exact hi)
  have h2 := ix_cell (S := S) W.wb (r := i) (c := j) (by rw [W.len]; exact hi) (by rw [W.wid]; exact hj)
  obtain ⟨p1, p2, p3, p4⟩ := W.pos
  obtain ⟨k, hk⟩ : ∃ k, at_ b i j = k := ⟨_, rfl⟩
  rw [hk] at a h2
  have hd : (dSet 13 (dIfE (dTest (dBin (fEq false) (dBin fIx (dBin fIx (dVar 1) (dVar 10)) (dVar 11)) (dC (.str "")))) (dC (.str "wall")) (dIfE (dTest (dBin (fIn false) (dVar 12) (dBin fIx (dBin fIx (dVar 1) (dVar 10)) (dVar 11)))) (dC (.str "")) (dC (.str "letter"))))) (shR b st r c x5 x6 x7 x8 x9 (some (.int i)) (some (.int j)) (some (ch s)) x13) S = .nx (shR b st r c x5 x6 x7 x8 x9 (some (.int i)) (some (.int j)) (some (ch s)) (some (.str (dueW k s)))) S := by
    unfold dueW
    by_cases h0 : k = ""
    · simp [shR, h1, h2, h0]
    · by_cases h3 : s ∈ tl k
      · simp [shR, h1, h2, h0, h3]
      · simp [shR, h1, h2, h0, h3]
  have lg : CDivW ((i : Int) + j + r) 2 := by
    have h5 : Nat.log2 2 < 9000 := by decide +kernel
    have h6 : ((i : Int) + j + r).natAbs.log2 < 9000 := Nat.lt_of_lt_of_le (PySem.Flt.log2_lt_of (k := 10) (by omega) (by omega)) (by omega)
    simp [CDivW]
    try omega
  refine ⟨some (.str (dueW k s)), ?_⟩
  unfold L__law_refused_1
  rw [dSeq_eq, hd, RS.seq_nx]
  generalize dueW k s = u at *
  have ma : CMulA (((i : Int) + j + r) / 2) 2 := .inl (.inr (by omega))
  by_cases q : ((i : Int) + j + r) / 2 * 2 = (i : Int) + j + r
  · simp [shR, lg, ma, q, a]
  · simp [shR, lg, ma, q]
theorem refused_row {i : Nat} (hi : i < r) {x5 x6 x7 x8 x9 x11 x12 x13 : Option T} : ∃ y11 y12 y13, L__law_refused_3 (shR b st r c x5 x6 x7 x8 x9 (some (.int i)) x11 x12 x13) S = .nx (shR b st r c x5 x6 x7 x8 x9 (some (.int i)) y11 y12 y13) S := by
  obtain ⟨p1, p2, p3, p4⟩ := W.pos
  let sh := fun (x11 x12 x13 : Option T) => shR b st r c x5 x6 x7 x8 x9 (some (.int i)) x11 x12 x13
  have inner : ∀ j, j < c → ∀ x12 x13, ∃ y12 y13, L__law_refused_2 (sh (some (.int (j : Nat))) x12 x13) S = .nx (sh (some (.int (j : Nat))) y12 y13) S := by
    intro j hj x12 x13
    obtain ⟨sl', S', q1, hS', _, y12, y13, rfl⟩ := forL_inv (src := none) (all := [100, 115, 117].map ch) (g := gN 12) (b := L__law_refused_1) ch
      (fun xs sl St => St = S ∧ (∀ s ∈ xs, s ∈ [100, 115, 117]) ∧ ∃ x12 x13, sl = sh (some (.int (j : Nat))) x12 x13) (fun _ _ _ _ => trivial) (by
        rintro s xs sl St ⟨rfl, hs, x12, x13, rfl⟩
        obtain ⟨y13, h⟩ := refused_in (S := St) W V hi hj (hs s List.mem_cons_self) (x5 := x5) (x6 := x6) (x7 := x7) (x8 := x8) (x9 := x9) (x13 := x13)
        exact ⟨_, _, sh (some (.int (j : Nat))) (some (ch s)) y13, St, gN_eq _, .inl h, rfl, fun u hu => hs u (List.mem_cons_of_mem _ hu), _, _, rfl⟩)
      [100, 115, 117] (sh (some (.int (j : Nat))) x12 x13) S ⟨rfl, fun _ h => h, _, _, rfl⟩
    subst hS'
    have hf := dFor_eq (dIt (dC (.str "dsu"))) (gN 12) L__law_refused_1 (sh (some (.int (j : Nat))) x12 x13) S' (dIt_eq (S1 := S') (t := .str "dsu") (src := none) (ts := [100, 115, 117].map ch) (by simp [sh]) rfl)
    exact ⟨y12, y13, hf.trans q1⟩
  obtain ⟨sl', S', q1, hS', _, y11, y12, y13, rfl⟩ := forL_inv (src := none) (all := (List.range c).map fun k => T.int (k : Nat)) (g := gN 11) (b := L__law_refused_2) (fun k : Nat => T.int k)
    (fun xs sl St => St = S ∧ (∀ s ∈ xs, s < c) ∧ ∃ x11 x12 x13, sl = sh x11 x12 x13) (fun _ _ _ _ => trivial) (by
      rintro j xs sl St ⟨rfl, hs, x11, x12, x13, rfl⟩
      obtain ⟨y12, y13, h⟩ := inner j (hs j List.mem_cons_self) x12 x13
      exact ⟨_, _, sh (some (.int (j : Nat))) y12 y13, St, gN_eq _, .inl h, rfl, fun u hu => hs u (List.mem_cons_of_mem _ hu), _, _, _, rfl⟩)
    (List.range c) (sh x11 x12 x13) S ⟨rfl, fun s h => List.mem_range.mp h, _, _, _, rfl⟩
  subst hS'
  have hf := dFor_eq (dRng1 (dCons (dVar 4) dNil)) (gN 11) L__law_refused_2 (sh x11 x12 x13) S' (dRng1_eq (n := c) (S1 := S') (by simp [sh]) (by omega))
  exact ⟨y11, y12, y13, hf.trans q1⟩
omit V in
theorem refused_ok (hw : Cw S) : ∃ S1, F__law_refused [.ref 1, eB b] S = .ok (.bl true) S1 ∧ Ch S S1 := by
  obtain ⟨p1, p2, p3, p4⟩ := W.pos
  have hlen := W.len
  have hwid := W.wid
  have hr16 : r ≤ 16777216 := by omega
  have hc16 : c ≤ 16777216 := by omega
  obtain ⟨st, S1, e1, V, _, w1⟩ := law_setting_ok W hw
  obtain ⟨i, S2, e2, l2, w2⟩ := pull0 w1.w r p1 (by omega)
  obtain ⟨j, S3, e3, l3, w3⟩ := pull0 w2.w c p2 (by omega)
  let sh := fun (x2 x3 x4 x5 x6 x7 x8 x9 x10 x11 x12 x13 : Option T) => [some (T.ref 1), some (eB b), x2, x3, x4, x5, x6, x7, x8, x9, x10, x11, x12, x13]
  let x5 := some (T.tup [.int i, .int j])
  let x6 := some (T.tup (wrongL r c i j))
  let x7 := some (T.tup oddL)
  have r0 := fun S => ix_row0 (S := S) W.wb
  have i2 : dSet 2 (dOwn 2 F__law_setting_v1 (dCons (dVar 0) (dCons (dVar 1) dNil))) (sh none none none none none none none none none none none none) S = .nx (sh (some (eR st)) none none none none none none none none none none none) S1 := by simp [sh, e1]
  have i3 : dSet 3 (dCall fLen (dCons (dVar 1) dNil)) (sh (some (eR st)) none none none none none none none none none none none) S1 = .nx (sh (some (eR st)) (some (.int r)) none none none none none none none none none none) S1 := by simp [sh, hlen]
  have i4 : dSet 4 (dCall fLen (dCons (dBin fIx (dVar 1) (dC (.int 0))) dNil)) (sh (some (eR st)) (some (.int r)) none none none none none none none none none none) S1 = .nx (shR b st r c none none none none none none none none none) S1 := by simp [sh, shR, r0, wd0, hwid, hc16]
  have i5 : dSet 5 (dTup (dCons (dOwn 2 F__law_pull_v1 (dCons (dVar 0) (dCons (dVar 3) dNil))) (dCons (dOwn 2 F__law_pull_v1 (dCons (dVar 0) (dCons (dVar 4) dNil))) dNil))) (shR b st r c none none none none none none none none none) S1 = .nx (shR b st r c x5 none none none none none none none none) S3 := by simp [shR, x5, e2, e3]
  have hd1 : ∀ St, dRng1 (dCons (dC (.int 3)) dNil) (shR b st r c x5 x6 x7 none none none none none none) St = .ok none ((List.range 3).map fun k => T.int (k : Nat)) St := fun St => dRng1_eq (n := 3) rfl (by omega)
  obtain ⟨sl', S4, q1, w4, y8, y9, rfl⟩ := forL_inv (src := none) (all := (List.range 3).map fun k => T.int (k : Nat)) (g := gN 8) (b := L__law_refused_0) (fun k : Nat => T.int k) (fun xs sl St => Ch S3 St ∧ ∃ x8 x9, sl = shR b st r c x5 x6 x7 x8 x9 none none none none) (fun _ _ _ _ => trivial) (by
      rintro k xs sl St ⟨wS, x8, x9, rfl⟩
      obtain ⟨y9, S1, h1, h2⟩ := refused_lap W V l2 l3 wS.w (x8 := some (.int k)) (x9 := x9)
      exact ⟨_, _, shR b st r c x5 x6 x7 (some (.int k)) y9 none none none none, S1, gN_eq _, .inl h1, wS.trans h2, _, _, rfl⟩)
    (List.range 3) (shR b st r c x5 x6 x7 none none none none none none) S3 ⟨.refl w3.w, _, _, rfl⟩
  obtain ⟨sl', S', q2, hS', _, y10, y11, y12, y13, rfl⟩ := forL_inv (src := none) (all := (List.range r).map fun k => T.int (k : Nat)) (g := gN 10) (b := L__law_refused_3) (fun k : Nat => T.int k) (fun xs sl St => St = S4 ∧ (∀ k ∈ xs, k < r) ∧ ∃ x10 x11 x12 x13, sl = shR b st r c x5 x6 x7 y8 y9 x10 x11 x12 x13) (fun _ _ _ _ => trivial) (by
      rintro k xs sl St ⟨rfl, hs, x10, x11, x12, x13, rfl⟩
      obtain ⟨y11, y12, y13, h⟩ := refused_row (S := St) W V (hs k List.mem_cons_self) (x5 := x5) (x6 := x6) (x7 := x7) (x8 := y8) (x9 := y9) (x11 := x11) (x12 := x12) (x13 := x13)
      exact ⟨_, _, _, St, gN_eq _, .inl h, rfl, fun u hu => hs u (List.mem_cons_of_mem _ hu), _, _, _, _, rfl⟩)
    (List.range r) (shR b st r c x5 x6 x7 y8 y9 none none none none) S4 ⟨rfl, fun s h => List.mem_range.mp h, _, _, _, _, rfl⟩
  subst hS'
  have hd2 : dRng1 (dCons (dVar 3) dNil) (shR b st r c x5 x6 x7 y8 y9 none none none none) S' = .ok none ((List.range r).map fun k => T.int (k : Nat)) S' := dRng1_eq (n := r) (S1 := S') (by simp [shR]) (by omega)
  have w05 := ((w1.trans w2).trans w3).trans w4
  refine ⟨S', ?_, w05⟩
  unfold F__law_refused
  rw [dFun_eq (np := 2) (n := 14) (ts := [.ref 1, eB b]) rfl]
  show gcR S (b__law_refused (sh none none none none none none none none none none none none) S) = _
  unfold b__law_refused
  rw [dSeq_eq, i2, RS.seq_nx, dSeq_eq, i3, RS.seq_nx, dSeq_eq, i4, RS.seq_nx, dSeq_eq, i5, RS.seq_nx, dSeq_eq]
  have i6 : ∀ k : DS, ∀ d6 : DE, d6 (shR b st r c x5 none none none none none none none none) S3 = .ok (.tup (wrongL r c i j)) S3 → (dSet 6 d6 (shR b st r c x5 none none none none none none none none) S3).seq k = k (shR b st r c x5 x6 none none none none none none none) S3 := fun k d6 h => by
    rw [dSet_eq, h]; rfl
  rw [i6 _ _ (by
    have cp : CPow 10 40 := by simp [CPow]
    simp [shR, x5, wrongL, cp]), dSeq_eq]
  have i7 : ∀ k : DS, ∀ d7 : DE, d7 (shR b st r c x5 x6 none none none none none none none) S3 = .ok (.tup oddL) S3 → (dSet 7 d7 (shR b st r c x5 x6 none none none none none none none) S3).seq k = k (shR b st r c x5 x6 x7 none none none none none none) S3 := fun k d7 h => by
    rw [dSet_eq, h]; rfl
  rw [i7 _ _ (by
    have cp : CPow 10 59 := by simp [CPow]
    simp [shR, oddL, cp]), dSeq_eq, dFor_eq _ _ _ _ _ (hd1 S3), q1, RS.seq_nx, dSeq_eq, dFor_eq _ _ _ _ _ hd2, q2, RS.seq_nx]
  simp
  rw [w05.gcT rfl]
end
end Bd

/-! the law k11 -/
namespace Bd
open PySem PySem.Spec L2 Dn Pk
theorem lap_ok {S : Sto} (hw : Cw S) {scr x2 x3 : Option T} : ∃ S1 y3, L_law_v7_0 [scr, some (.ref 1), x2, x3, none, none, none, none] S = .nx [scr, some (.ref 1), x2, y3, none, none, none, none] S1 ∧ Ch S S1 := by
  obtain ⟨r, S1, e1, l1, w1⟩ := pull0 hw 4 (by omega) (by omega)
  obtain ⟨c, S2, e2, l2, w2⟩ := pull0 w1.w 4 (by omega) (by omega)
  replace e1 : F__law_pull_v1 [.ref 1, .int 4] S = .ok (.int r) S1 := e1
  replace e2 : F__law_pull_v1 [.ref 1, .int 4] S1 = .ok (.int c) S2 := e2
  obtain ⟨b, S3, e3, w3, W, h1⟩ := board1_ok w2.w (r := 1 + r) (c := 1 + c) (by omega) (by omega) (by omega) (by omega)
  have e3' : F__law_board_v6 [.ref 1, .int (1 + (r : Int)), .int (1 + (c : Int))] S2 = .ok (eB b) S3 := by
    rw [← e3]; simp
  obtain ⟨S4, e4, w4⟩ := some_ok W (n := 5) (by omega) w3.w
  replace e4 : F__law_some [.ref 1, eB b, .int 5] S3 = .ok (.bl true) S4 := e4
  obtain ⟨S5, e5, w5⟩ := edges_ok W h1 w4.w
  obtain ⟨S6, e6, w6⟩ := refused_ok W w5.w
  refine ⟨S6, some (eB b), ?_, ((((w1.trans w2).trans w3).trans w4).trans w5).trans w6⟩
  simp [L_law_v7_0, e1, e2, e3', e4, e5, e6]
def hand : Brd := [["", "d", "su"], ["dsu", "", "u"]]
theorem kb_dec {b : Brd} {r c : Nat} (h : decide (0 < r) && (decide (0 < c) && (decide (r ≤ 100) && (decide (c ≤ 100) && (decide (b.length = r) && (b.all (fun q => decide (q.length = c)) && b.all fun q => q.all fun k => decide (k ∈ KS)))))) = true) : KB b r c := by
  simp only [Bool.and_eq_true, decide_eq_true_eq, List.all_eq_true] at h
  obtain ⟨h1, h2, h3, h4, h5, h6, h7⟩ := h
  exact kb_of h1 h2 h3 h4 h5 h6 h7
theorem hand_KB : KB hand 2 3 := kb_dec (by decide)
theorem q_hh : T.tup [.tup [.str "", .str "d", .str "su"], .tup [.str "dsu", .str "", .str "u"]] = eB hand := rfl
theorem two_good {a b : Str} (ha : a.length ≤ 1000) (hb : b.length ≤ 1000) : Gv (.tup [.str a, .str b]) := Gv.tup (by simp) fun t ht => by
  simp only [List.mem_cons, List.not_mem_nil, or_false] at ht
  rcases ht with rfl | rfl
  · exact Wg.str ha
  · exact Wg.str hb
theorem q_j : ∀ S, F__law_judged [eB hand, .tup [.str "#ds", .str "s#u"]] S = .ok (.bl true) S := fun S => judged_ok hand_KB (two_good (by decide) (by decide))
theorem told_hand {a b : Str} {e : Except (Int × Int × Str) Nat} (ha : a.length ≤ 1000) (hb : b.length ≤ 1000) (h : flt hand (.tup [.str a, .str b]) = e) (S : Sto) : F__law_told_v5 [eB hand, .tup [.str a, .str b]] S = .ok (tellF e) S ∧ F__law_same_v1 [tellF e, tellF e] S = .ok (.bl true) S := by
  refine ⟨?_, ?_⟩
  · rw [told_ok hand_KB (two_good ha hb), h]
  · have hs := tellF_ok (e := e)
    exact same_ok hs.1 (by omega)
def asks : List (Str × Str × Int × Int × Str) := [("ddd", "s#", 1, -1, "row"), ("ddd", "sdu", 0, 0, "wall"), ("#dd", "sdu", 0, 2, "letter"), ("#ds", "sdd", 1, 1, "wall")]
def eK (a : Str × Str × Int × Int × Str) : T := .tup [.tup [.str a.1, .str a.2.1], .tup [.int a.2.2.1, .int a.2.2.2.1, .str a.2.2.2.2]]
theorem asks_flt : ∀ a ∈ asks, a.1.length ≤ 1000 ∧ a.2.1.length ≤ 1000 ∧ flt hand (.tup [.str a.1, .str a.2.1]) = .error (a.2.2.1, a.2.2.2.1, a.2.2.2.2) := by
  intro a ha
  simp only [asks, List.mem_cons, List.not_mem_nil, or_false] at ha
  rcases ha with rfl | rfl | rfl | rfl
  · exact ⟨by decide, by decide, by rfl⟩
  · exact ⟨by decide, by decide, by rfl⟩
  · exact ⟨by decide, by decide, by rfl⟩
  · exact ⟨by decide, by decide, by rfl⟩
theorem law_true : ∀ ns : List Int, ns.length ≤ 63 → ∃ S', F_law_v7 [.flst (ns.map T.int)] [] = .ok (.bl true) S' := by
  intro ns hl
  obtain ⟨m, ds, hd, hch⟩ := chest_ok hl
  have hW : Cw [.lst (ds.map T.int), .lst [.ref 0, .int m]] := ⟨m, ds, hd, rfl, rfl⟩
  let sh := fun (x2 x3 x4 x5 x6 x7 : Option T) => [some (T.flst (ns.map T.int)), some (T.ref 1), x2, x3, x4, x5, x6, x7]
  obtain ⟨sl', S2, q1, w2, y2, y3, rfl⟩ := forL_inv (src := none) (all := (List.range 3).map fun k => T.int (k : Nat)) (g := gN 2) (b := L_law_v7_0) (fun k : Nat => T.int k) (fun xs sl St => Cw St ∧ ∃ x2 x3, sl = sh x2 x3 none none none none) (fun _ _ _ _ => trivial) (by
      rintro k xs sl St ⟨wSt, x2, x3, rfl⟩
      obtain ⟨S1, y3, h1, h2⟩ := lap_ok wSt (scr := some (T.flst (ns.map T.int))) (x2 := some (.int k)) (x3 := x3)
      exact ⟨_, _, sh (some (.int k)) y3 none none none none, S1, gN_eq _, .inl h1, h2.w, _, _, rfl⟩)
    (List.range 3) (sh none none none none none none) [.lst (ds.map T.int), .lst [.ref 0, .int m]] ⟨hW, _, _, rfl⟩
  have hr : dRng1 (dCons (dC (.int 3)) dNil) (sh none none none none none none) [.lst (ds.map T.int), .lst [.ref 0, .int m]] = .ok none ((List.range 3).map fun k => T.int (k : Nat)) [.lst (ds.map T.int), .lst [.ref 0, .int m]] := dRng1_eq (n := 3) rfl (by omega)
  have hf := dFor_eq (dRng1 (dCons (dC (.int 3)) dNil)) (gN 2) L_law_v7_0 _ _ hr
  obtain ⟨S3, e3, w3⟩ := refused_ok hand_KB w2
  obtain ⟨sl', S', q2, hS', _, y6, y7, rfl⟩ := forL_inv (src := none) (all := asks.map eK) (g := gT 2 (gsCons (gN 6) (gsCons (gN 7) gsNil))) (b := L_law_v7_1) eK (fun xs sl St => St = S3 ∧ (∀ a ∈ xs, a ∈ asks) ∧ ∃ x6 x7, sl = sh y2 y3 (some (eB hand)) (some (.lst (asks.map eK))) x6 x7) (fun _ _ _ _ => trivial) (by
      rintro a xs sl St ⟨rfl, ha, x6, x7, rfl⟩
      obtain ⟨h1, h2, h3⟩ := asks_flt a (ha a List.mem_cons_self)
      obtain ⟨t1, t2⟩ := told_hand h1 h2 h3 St
      obtain ⟨a1, a2, a3, a4, a5⟩ := a
      simp only [tellF] at t1 t2
      refine ⟨sh y2 y3 (some (eB hand)) (some (.lst (asks.map eK))) (some (.tup [.str a1, .str a2])) (some (.tup [.int a3, .int a4, .str a5])), St, sh y2 y3 (some (eB hand)) (some (.lst (asks.map eK))) (some (.tup [.str a1, .str a2])) (some (.tup [.int a3, .int a4, .str a5])), St, by simp [sh, eK], .inl (by simp [L_law_v7_1, sh, t1, t2]), rfl, fun u hu => ha u (List.mem_cons_of_mem _ hu), _, _, rfl⟩)
    asks (sh y2 y3 (some (eB hand)) (some (.lst (asks.map eK))) none none) S3 ⟨rfl, fun _ h => h, _, _, rfl⟩
  subst hS'
  obtain ⟨t, S4, e4, l4, w4⟩ := pull0 w3.w 13 (by omega) (by omega)
  replace e4 : F__law_pull_v1 [.ref 1, .int 13] S' = .ok (.int t) S4 := e4
  have cutN : ∀ S : Sto, CutOk [] S := fun S => ⟨Nat.zero_le _, fun i hi => by simp at hi⟩
  have hf2 := dFor_eq (dIt (dVar 5)) (gT 2 (gsCons (gN 6) (gsCons (gN 7) gsNil))) L_law_v7_1 (sh y2 y3 (some (eB hand)) (some (.lst (asks.map eK))) none none) S' (dIt_eq (S1 := S') (t := .lst (asks.map eK)) (src := none) (ts := asks.map eK) (by simp [sh]) rfl)
  have ea : [T.tup [T.tup [.str "ddd", .str "s#"], .tup [.int 1, .int (-1), .str "row"]], .tup [.tup [.str "ddd", .str "sdu"], .tup [.int 0, .int 0, .str "wall"]], .tup [.tup [.str "#dd", .str "sdu"], .tup [.int 0, .int 2, .str "letter"]], .tup [.tup [.str "#ds", .str "sdd"], .tup [.int 1, .int 1, .str "wall"]]] = asks.map eK := rfl
  simp only [F_law_v7, dFun_eq (np := 1) (n := 8) (ts := [.flst (ns.map T.int)]) rfl, b_law_v7]
  have hAL : (asks.map eK).length ≤ 16777216 := by simp [asks]
  generalize asks.map eK = AL at *
  simp only [sh] at hf q1 hf2 q2
  simp [hch]
  rw [hf.trans q1]
  by_cases ht : t = 5
  · obtain ⟨b, S5, e5, w5, W, h1⟩ := board1_ok w4.w (r := 8) (c := 8) (by omega) (by omega) (by omega) (by omega)
    replace e5 : F__law_board_v6 [.ref 1, .int 8, .int 8] S4 = .ok (eB b) S5 := e5
    obtain ⟨S6, e6, w6⟩ := some_ok W (n := 6) (by omega) w5.w
    replace e6 : F__law_some [.ref 1, eB b, .int 6] S5 = .ok (.bl true) S6 := e6
    obtain ⟨S7, e7, w7⟩ := edges_ok W h1 w6.w
    refine ⟨S7.take 0, ?_⟩
    simp [q_hh, q_j, e3, ea, hAL]
    rw [hf2.trans q2]
    simp [e4, ht, e5, e6, e7]
    rw [gcT_cut (cutN S7) (by simp)]
    rfl
  · refine ⟨S4.take 0, ?_⟩
    have ht' : ¬ ((t : Nat) : Int) = 5 := by omega
    simp [q_hh, q_j, e3, ea, hAL]
    rw [hf2.trans q2]
    simp [e4, ht, ht']
    rw [gcT_cut (cutN S4) (by simp)]
    rfl
end Bd

namespace Gk11
open PySem PySem.Spec L2 Dn Pk
def top (i : Nat) : Stmt := PySem.Challenge.pw_lightled_k11_settings_checked.main.body.getD i (.Pass ⟨0, 0, 0, 0⟩)
abbrev FnP (K : PySem.W.Frag) (x : Str) (st : Stmt) (f : Addr) (fd : FuncData) : Prop := FunD K x x (defArgs st) (defBody st) (defScope st) [] [] f fd
structure Fx (K : PySem.W.Frag) (w : World) (mg : Str → Option Value) : Prop where
  f_bool : mg "bool" = none
  f_int : mg "int" = none
  f_isinstance : mg "isinstance" = none
  f_len : mg "len" = none
  f_list : mg "list" = none
  f_range : mg "range" = none
  f_str : mg "str" = none
  f_tuple : mg "tuple" = none
  g_LETTERS : GC K w mg "LETTERS" c_LETTERS
  x_BadSetting_0 : HdX K mg "BadSetting" [("BadSetting", true), ("BadStep", false)] ["row", "column", "word"]
  x_LightError_1 : HdX K mg "LightError" [("BadSetting", true), ("BadStep", true)] []
  x_BadSetting_2 : HdX K mg "BadSetting" [("BadSetting", true), ("BadStep", false)] []
  x_BadStep_3 : HdX K mg "BadStep" [("BadSetting", false), ("BadStep", true)] ["word"]
abbrev si_BadSetting : Stmt := inClass (top 4) 0
def Di_BadSetting : He.DefD := ⟨("BadSetting", some "__init__"), "__init__", "BadSetting.__init__", defArgs si_BadSetting, defBody si_BadSetting, defScope si_BadSetting, [], []⟩
theorem i_BadSetting {P : Program} {w : World} {K : PySem.W.Frag} {mg : Str → Option Value} {base : Heap} {fd : FuncData} (hm : mg "BadSetting" = some (.ref (He.ga K "BadSetting"))) (ho : oexB K (He.ga K "BadSetting") (He.ma K (He.ga K "BadSetting") "__init__") ["row", "column", "word"] = true)
    (F : FunD K "__init__" "BadSetting.__init__" (defArgs si_BadSetting) (defBody si_BadSetting) (defScope si_BadSetting) [] [] (He.ma K (He.ga K "BadSetting") "__init__") fd) : Mkr P w K mg base 1 "BadSetting" 4 [("row", 1), ("column", 2), ("word", 3)] := by
  have sc : FnScope ["self", "row", "column", "word"] ["self", "row", "column", "word"] (defScope si_BadSetting) := ⟨rfl, rfl, rfl, by decide +kernel, rfl, by decide +kernel, by decide +kernel⟩
  exact mkr_of (d := Di_BadSetting) hm ho F sc (fun _ _ _ _ _ _ us hl => match us, hl with | [_, _, _, _], _ => rfl) fun cdv A outer s H E => (pss_cons (ps_ost (pv 0) (pv 1)) (pss_cons (ps_ost (pv 0) (pv 2)) (pss_cons (ps_ost (pv 0) (pv 3)) pss_nil)))
abbrev si_BadStep : Stmt := inClass (top 5) 0
def Di_BadStep : He.DefD := ⟨("BadStep", some "__init__"), "__init__", "BadStep.__init__", defArgs si_BadStep, defBody si_BadStep, defScope si_BadStep, [], []⟩
theorem i_BadStep {P : Program} {w : World} {K : PySem.W.Frag} {mg : Str → Option Value} {base : Heap} {fd : FuncData} (hm : mg "BadStep" = some (.ref (He.ga K "BadStep"))) (ho : oexB K (He.ga K "BadStep") (He.ma K (He.ga K "BadStep") "__init__") ["word"] = true)
    (F : FunD K "__init__" "BadStep.__init__" (defArgs si_BadStep) (defBody si_BadStep) (defScope si_BadStep) [] [] (He.ma K (He.ga K "BadStep") "__init__") fd) : Mkr P w K mg base 1 "BadStep" 2 [("word", 1)] := by
  have sc : FnScope ["self", "word"] ["self", "word"] (defScope si_BadStep) := ⟨rfl, rfl, rfl, by decide +kernel, rfl, by decide +kernel, by decide +kernel⟩
  exact mkr_of (d := Di_BadStep) hm ho F sc (fun _ _ _ _ _ _ us hl => match us, hl with | [_, _], _ => rfl) fun cdv A outer s H E => (pss_cons (ps_ost (pv 0) (pv 1)) pss_nil)
abbrev s__law_chest : Stmt := top 31
def D__law_chest : He.DefD := ⟨("_law_chest", none), "_law_chest", "_law_chest", defArgs s__law_chest, defBody s__law_chest, defScope s__law_chest, [], []⟩
theorem o__law_chest {P : Program} {w : World} {K : PySem.W.Frag} {mg : Str → Option Value} {base : Heap} {f : Addr} {fd : FuncData} (h : Fx K w mg) (F : FnP K "_law_chest" s__law_chest f fd) (hm : mg "_law_chest" = some (.ref f)) : OwnAt P w K mg base 1 "_law_chest" ["script"] F__law_chest_v1 f fd := by
  have sc : FnScope ["script", "mixed", "stack", "cell", "size"] ["script"] (defScope s__law_chest) := ⟨rfl, rfl, rfl, by decide +kernel, rfl, by decide +kernel, by decide +kernel⟩
  refine own_of (d := D__law_chest) (N := ["script", "mixed", "stack", "cell", "size"]) (ds := b__law_chest_v1) F hm sc (fun _ _ _ _ _ _ us hl => match us, hl with | [_], _ => rfl) fun cdv A outer s H E hr => ?_
  unfold b__law_chest_v1 L__law_chest_v1_0
  exact (lss_cons (ls_setM (ps_set (i := 1) sc.nd rfl (by first | exact Or.inl rfl | exact Or.inr rfl) le_i))
  (lss_cons (ls_setM (ps_set (i := 2) sc.nd rfl (by first | exact Or.inl rfl | exact Or.inr rfl) (le_lst la_nil)))
  (lss_cons (ls_for (passes_of rfl) rfl (li_seq (le_sl (le_var (pv 0)) lo_none (lo_some le_i))) (lg_name (pg_name (i := 3) sc.nd rfl (by first | exact Or.inl rfl | exact Or.inr rfl)))
  (lss_cons (ls_set (ps_set (i := 4) sc.nd rfl (by first | exact Or.inl rfl | exact Or.inr rfl) (le_ifE (lt_cmp or_ge od_lt (le_var (pv 3)) le_i) (le_mul le_i (le_int rfl h.f_int (la_cons (le_var (pv 3)) la_nil))) (le_sub le_i (le_mul le_i (le_int rfl h.f_int (la_cons (le_var (pv 3)) la_nil)))))))
  (lss_cons (ls_setM (ps_set (i := 1) sc.nd rfl (by first | exact Or.inl rfl | exact Or.inr rfl) (le_mod (le_int rfl h.f_int (la_cons (le_add (le_add (le_mul (le_var (pv 1)) le_i) (le_mod (le_var (pv 4)) le_i)) le_i) la_nil)) le_i)))
  (lss_one (ls_if (lt_cmp or_ge od_lt (le_var (pv 4)) (le_pow le_i le_i))
  (lss_one (ls_expr (le_append (le_var (pv 2)) (la_cons (le_mod (le_var (pv 4)) (le_powW (le_pow le_i le_i) le_i)) la_nil) ⟨rfl, rfl, rfl, rfl, rfl⟩)))
  lss_nil)))))
  (lss_one (ls_ret (le_lst (la_cons (le_var (pv 2)) (la_cons (le_var (pv 1)) la_nil))))))))
abbrev s__law_pull : Stmt := top 32
def D__law_pull : He.DefD := ⟨("_law_pull", none), "_law_pull", "_law_pull", defArgs s__law_pull, defBody s__law_pull, defScope s__law_pull, [], []⟩
theorem o__law_pull {P : Program} {w : World} {K : PySem.W.Frag} {mg : Str → Option Value} {base : Heap} {f : Addr} {fd : FuncData} (h : Fx K w mg) (F : FnP K "_law_pull" s__law_pull f fd) (hm : mg "_law_pull" = some (.ref f)) : OwnAt P w K mg base 1 "_law_pull" ["chest", "many"] F__law_pull_v1 f fd := by
  have sc : FnScope ["chest", "many", "size"] ["chest", "many"] (defScope s__law_pull) := ⟨rfl, rfl, rfl, by decide +kernel, rfl, by decide +kernel, by decide +kernel⟩
  refine own_of (d := D__law_pull) (N := ["chest", "many", "size"]) (ds := b__law_pull_v1) F hm sc (fun _ _ _ _ _ _ us hl => match us, hl with | [_, _], _ => rfl) fun cdv A outer s H E hr => ?_
  unfold b__law_pull_v1 
  exact (lss_cons (ls_if (lt_cmp or_lt od_lt (le_var (pv 1)) le_i)
  (lss_one (ls_ret le_i))
  lss_nil)
  (lss_cons (ls_if (lt_cmp or_gt od_lt (le_len rfl h.f_len (la_cons (le_ix (hu65 hr) (le_var (pv 0)) le_i) la_nil)) le_i)
  (lss_cons (ls_set (ps_set (i := 2) sc.nd rfl (by first | exact Or.inl rfl | exact Or.inr rfl) (le_int rfl h.f_int (la_cons (le_pop (le_ix (hu65 hr) (le_var (pv 0)) le_i) ⟨rfl, rfl⟩) la_nil))))
  (lss_cons (ls_if (lt_cmp or_ge od_lt (le_var (pv 2)) (le_var (pv 1)))
  (lss_one (ls_expr (le_append (le_ix (hu65 hr) (le_var (pv 0)) le_i) (la_cons (le_fdiv (le_var (pv 2)) (le_var (pv 1))) la_nil) ⟨rfl, rfl, rfl, rfl, rfl⟩)))
  lss_nil)
  (lss_one (ls_ret (le_mod (le_var (pv 2)) (le_var (pv 1)))))))
  lss_nil)
  (lss_cons (ls_asg (le_mod (le_int rfl h.f_int (la_cons (le_add (le_mul (le_ix (hu65 hr) (le_var (pv 0)) le_i) le_i) le_i) la_nil)) le_i) (lg_sub (W := W0) (hu65 hr) (le_var (pv 0)) le_i))
  (lss_one (ls_ret (le_mod (le_int rfl h.f_int (la_cons (le_fdiv (le_ix (hu65 hr) (le_var (pv 0)) le_i) le_i) la_nil)) (le_var (pv 1))))))))
abbrev s__law_from : Stmt := top 33
def D__law_from : He.DefD := ⟨("_law_from", none), "_law_from", "_law_from", defArgs s__law_from, defBody s__law_from, defScope s__law_from, [], []⟩
theorem o__law_from {P : Program} {w : World} {K : PySem.W.Frag} {mg : Str → Option Value} {base : Heap} {f : Addr} {fd : FuncData} (h : Fx K w mg) (F : FnP K "_law_from" s__law_from f fd) (hm : mg "_law_from" = some (.ref f)) (o__law_pull : Own P w K mg base 1 "_law_pull" ["chest", "many"] F__law_pull_v1) : OwnAt P w K mg base 2 "_law_from" ["chest", "row"] F__law_from_v1 f fd := by
  have sc : FnScope ["chest", "row"] ["chest", "row"] (defScope s__law_from) := ⟨rfl, rfl, rfl, by decide +kernel, rfl, by decide +kernel, by decide +kernel⟩
  refine own_of (d := D__law_from) (N := ["chest", "row"]) (ds := b__law_from_v1) F hm sc (fun _ _ _ _ _ _ us hl => match us, hl with | [_, _], _ => rfl) fun cdv A outer s H E hr => ?_
  unfold b__law_from_v1 
  exact (lss_one (ls_ret (le_ix (hu65 hr) (le_var (pv 1)) (le_call o__law_pull (hr.mono (by decide)) rfl (L2N.takes_of rfl rfl rfl rfl) (la_cons (le_var (pv 0)) (la_cons (le_len rfl h.f_len (la_cons (le_var (pv 1)) la_nil)) la_nil))))))
abbrev s__law_board : Stmt := top 36
def D__law_board : He.DefD := ⟨("_law_board", none), "_law_board", "_law_board", defArgs s__law_board, defBody s__law_board, defScope s__law_board, [], []⟩
theorem o__law_board {P : Program} {w : World} {K : PySem.W.Frag} {mg : Str → Option Value} {base : Heap} {f : Addr} {fd : FuncData} (h : Fx K w mg) (F : FnP K "_law_board" s__law_board f fd) (hm : mg "_law_board" = some (.ref f)) (o__law_pull : Own P w K mg base 1 "_law_pull" ["chest", "many"] F__law_pull_v1) (o__law_from : Own P w K mg base 2 "_law_from" ["chest", "row"] F__law_from_v1) : OwnAt P w K mg base 3 "_law_board" ["chest", "rows", "columns"] F__law_board_v6 f fd := by
  have sc : FnScope ["chest", "rows", "columns", "kinds", "habit", "most", "walls", "told", "row", "made", "column", "kind"] ["chest", "rows", "columns"] (defScope s__law_board) := ⟨rfl, rfl, rfl, by decide +kernel, rfl, by decide +kernel, by decide +kernel⟩
  refine own_of (d := D__law_board) (N := ["chest", "rows", "columns", "kinds", "habit", "most", "walls", "told", "row", "made", "column", "kind"]) (ds := b__law_board_v6) F hm sc (fun _ _ _ _ _ _ us hl => match us, hl with | [_, _, _], _ => rfl) fun cdv A outer s H E hr => ?_
  unfold b__law_board_v6 C__law_board_v6_2 L__law_board_v6_1 L__law_board_v6_0
  exact (lss_cons (ls_set (ps_set (i := 3) sc.nd rfl (by first | exact Or.inl rfl | exact Or.inr rfl) (le_tup (la_cons le_s (la_cons le_s (la_cons le_s (la_cons le_s (la_cons le_s (la_cons le_s (la_cons le_s (la_cons le_s la_nil)))))))))))
  (lss_cons (ls_set (ps_set (i := 4) sc.nd rfl (by first | exact Or.inl rfl | exact Or.inr rfl) (le_call o__law_pull (hr.mono (by decide)) rfl (L2N.takes_of rfl rfl rfl rfl) (la_cons (le_var (pv 0)) (la_cons le_i la_nil)))))
  (lss_cons (ls_set (ps_set (i := 5) sc.nd rfl (by first | exact Or.inl rfl | exact Or.inr rfl) (le_call o__law_from (hr.mono (by decide)) rfl (L2N.takes_of rfl rfl rfl rfl) (la_cons (le_var (pv 0)) (la_cons (le_var (pv 3)) la_nil)))))
  (lss_cons (ls_set (ps_set (i := 6) sc.nd rfl (by first | exact Or.inl rfl | exact Or.inr rfl) (le_call o__law_from (hr.mono (by decide)) rfl (L2N.takes_of rfl rfl rfl rfl) (la_cons (le_var (pv 0)) (la_cons (le_tup (la_cons le_i (la_cons le_i (la_cons le_i (la_cons le_i la_nil))))) la_nil)))))
  (lss_cons (ls_setM (ps_set (i := 7) sc.nd rfl (by first | exact Or.inl rfl | exact Or.inr rfl) (le_lst la_nil)))
  (lss_cons (ls_for (passes_of rfl) rfl (li_rng1 rfl h.f_range (la_cons (le_var (pv 1)) la_nil)) (lg_name (pg_name (i := 8) sc.nd rfl (by first | exact Or.inl rfl | exact Or.inr rfl)))
  (lss_cons (ls_setM (ps_set (i := 9) sc.nd rfl (by first | exact Or.inl rfl | exact Or.inr rfl) (le_lst la_nil)))
  (lss_cons (ls_for (passes_of rfl) rfl (li_rng1 rfl h.f_range (la_cons (le_var (pv 2)) la_nil)) (lg_name (pg_name (i := 10) sc.nd rfl (by first | exact Or.inl rfl | exact Or.inr rfl)))
  (lss_cons (ls_set (ps_set (i := 11) sc.nd rfl (by first | exact Or.inl rfl | exact Or.inr rfl) (le_ix (hu65 hr) (le_var (pv 3)) (le_add le_i (le_call o__law_pull (hr.mono (by decide)) rfl (L2N.takes_of rfl rfl rfl rfl) (la_cons (le_var (pv 0)) (la_cons le_i la_nil)))))))
  (lss_cons (ls_if (lt_w (lw_and (lt_cmp (or_eq (hu65 hr)) od_eq (le_var (pv 4)) le_i) (lw_and1 (lt_cmp or_gt od_lt (le_call o__law_pull (hr.mono (by decide)) rfl (L2N.takes_of rfl rfl rfl rfl) (la_cons (le_var (pv 0)) (la_cons le_i la_nil))) le_i))))
  (lss_one (ls_set (ps_set (i := 11) sc.nd rfl (by first | exact Or.inl rfl | exact Or.inr rfl) (le_var (pv 5)))))
  lss_nil)
  (lss_cons (ls_if (lt_cmp (or_eq (hu65 hr)) od_eq (le_var (pv 4)) le_i)
  (lss_one (ls_set (ps_set (i := 11) sc.nd rfl (by first | exact Or.inl rfl | exact Or.inr rfl) (le_call o__law_from (hr.mono (by decide)) rfl (L2N.takes_of rfl rfl rfl rfl) (la_cons (le_var (pv 0)) (la_cons (le_tup (la_cons le_s (la_cons le_s (la_cons le_s la_nil)))) la_nil))))))
  lss_nil)
  (lss_cons (ls_if (lt_cmp (or_eq (hu65 hr)) od_eq (le_var (pv 4)) le_i)
  (lss_one (ls_set (ps_set (i := 11) sc.nd rfl (by first | exact Or.inl rfl | exact Or.inr rfl) le_s)))
  lss_nil)
  (lss_one (ls_expr (le_append (le_var (pv 9)) (la_cons (le_ifE (lt_cmp or_lt od_lt (le_call o__law_pull (hr.mono (by decide)) rfl (L2N.takes_of rfl rfl rfl rfl) (la_cons (le_var (pv 0)) (la_cons le_i la_nil))) (le_var (pv 6))) le_s (le_var (pv 11))) la_nil) ⟨rfl, rfl, rfl, rfl, rfl⟩))))))))
  (lss_one (ls_expr (le_append (le_var (pv 7)) (la_cons (le_var (pv 9)) la_nil) ⟨rfl, rfl, rfl, rfl, rfl⟩))))))
  (lss_cons (ls_setM (ps_set (i := 8) sc.nd rfl (by first | exact Or.inl rfl | exact Or.inr rfl) (le_ix (hu65 hr) (le_var (pv 7)) (le_call o__law_pull (hr.mono (by decide)) rfl (L2N.takes_of rfl rfl rfl rfl) (la_cons (le_var (pv 0)) (la_cons (le_var (pv 1)) la_nil))))))
  (lss_cons (ls_set (ps_set (i := 10) sc.nd rfl (by first | exact Or.inl rfl | exact Or.inr rfl) (le_call o__law_pull (hr.mono (by decide)) rfl (L2N.takes_of rfl rfl rfl rfl) (la_cons (le_var (pv 0)) (la_cons (le_var (pv 2)) la_nil)))))
  (lss_cons (ls_if (lt_cmp (or_eq (hu65 hr)) od_eq (le_ix (hu65 hr) (le_var (pv 8)) (le_var (pv 10))) le_s)
  (lss_one (ls_asg (le_ix (hu65 hr) (le_var (pv 3)) (le_add le_i (le_call o__law_pull (hr.mono (by decide)) rfl (L2N.takes_of rfl rfl rfl rfl) (la_cons (le_var (pv 0)) (la_cons le_i la_nil))))) (lg_sub (W := W0) (hu65 hr) (le_var (pv 8)) (le_var (pv 10)))))
  lss_nil)
  (lss_one (ls_ret (le_tuple rfl rfl h.f_tuple (la_cons (le_lc rfl sc.nd (li_seq (le_var (pv 7))) (own := [("row", 8)]) (blk_of (by kernel_rfl)) (fun _ _ _ _ _ => (lc_name (pg_name (i := 8) sc.nd rfl (by first | exact Or.inl rfl | exact Or.inr rfl)))) (fun _ _ _ _ _ => lts_nil) (fun _ _ _ _ _ => (le_tuple rfl rfl h.f_tuple (la_cons (le_var (pv 8)) la_nil)))) la_nil)))))))))))))
abbrev s__law_fault : Stmt := top 38
def D__law_fault : He.DefD := ⟨("_law_fault", none), "_law_fault", "_law_fault", defArgs s__law_fault, defBody s__law_fault, defScope s__law_fault, [], []⟩
theorem o__law_fault {P : Program} {w : World} {K : PySem.W.Frag} {mg : Str → Option Value} {base : Heap} {f : Addr} {fd : FuncData} (h : Fx K w mg) (F : FnP K "_law_fault" s__law_fault f fd) (hm : mg "_law_fault" = some (.ref f)) : OwnAt P w K mg base 1 "_law_fault" ["board", "thing"] F__law_fault f fd := by
  have sc : FnScope ["board", "thing", "many", "row", "column", "sign"] ["board", "thing"] (defScope s__law_fault) := ⟨rfl, rfl, rfl, by decide +kernel, rfl, by decide +kernel, by decide +kernel⟩
  refine own_of (d := D__law_fault) (N := ["board", "thing", "many", "row", "column", "sign"]) (ds := b__law_fault) F hm sc (fun _ _ _ _ _ _ us hl => match us, hl with | [_, _], _ => rfl) fun cdv A outer s H E hr => ?_
  unfold b__law_fault L__law_fault_2 L__law_fault_1 L__law_fault_0
  exact (lss_cons (ls_if (lt_w (lw_or (lt_not (lt_tru (le_isi (T := "tuple") (by decide) rfl h.f_isinstance rfl h.f_tuple (by decide +kernel) (le_var (pv 1))))) (lw_or1 (lt_cmp (or_ne (hu65 hr)) od_ne (le_len rfl h.f_len (la_cons (le_var (pv 1)) la_nil)) (le_len rfl h.f_len (la_cons (le_var (pv 0)) la_nil))))))
  (lss_one (ls_ret (le_tup (la_cons (le_neg le_i) (la_cons (le_neg le_i) (la_cons le_s la_nil))))))
  lss_nil)
  (lss_cons (ls_set (ps_set (i := 2) sc.nd rfl (by first | exact Or.inl rfl | exact Or.inr rfl) le_i))
  (lss_cons (ls_for (passes_of rfl) rfl (li_rng1 rfl h.f_range (la_cons (le_len rfl h.f_len (la_cons (le_var (pv 0)) la_nil)) la_nil)) (lg_name (pg_name (i := 3) sc.nd rfl (by first | exact Or.inl rfl | exact Or.inr rfl)))
  (lss_one (ls_if (lt_w (lw_or (lt_not (lt_tru (le_isi (T := "str") (by decide) rfl h.f_isinstance rfl h.f_str (by decide +kernel) (le_ix (hu65 hr) (le_var (pv 1)) (le_var (pv 3)))))) (lw_or1 (lt_cmp (or_ne (hu65 hr)) od_ne (le_len rfl h.f_len (la_cons (le_ix (hu65 hr) (le_var (pv 1)) (le_var (pv 3))) la_nil)) (le_len rfl h.f_len (la_cons (le_ix (hu65 hr) (le_var (pv 0)) (le_var (pv 3))) la_nil))))))
  (lss_one (ls_ret (le_tup (la_cons (le_var (pv 3)) (la_cons (le_neg le_i) (la_cons le_s la_nil))))))
  lss_nil)))
  (lss_cons (ls_for (passes_of rfl) rfl (li_rng1 rfl h.f_range (la_cons (le_len rfl h.f_len (la_cons (le_var (pv 0)) la_nil)) la_nil)) (lg_name (pg_name (i := 3) sc.nd rfl (by first | exact Or.inl rfl | exact Or.inr rfl)))
  (lss_one (ls_for (passes_of rfl) rfl (li_rng1 rfl h.f_range (la_cons (le_len rfl h.f_len (la_cons (le_ix (hu65 hr) (le_var (pv 0)) (le_var (pv 3))) la_nil)) la_nil)) (lg_name (pg_name (i := 4) sc.nd rfl (by first | exact Or.inl rfl | exact Or.inr rfl)))
  (lss_cons (ls_set (ps_set (i := 5) sc.nd rfl (by first | exact Or.inl rfl | exact Or.inr rfl) (le_ix (hu65 hr) (le_ix (hu65 hr) (le_var (pv 1)) (le_var (pv 3))) (le_var (pv 4)))))
  (lss_cons (ls_if (lt_w (lw_and (lt_cmp (or_eq (hu65 hr)) od_eq (le_ix (hu65 hr) (le_ix (hu65 hr) (le_var (pv 0)) (le_var (pv 3))) (le_var (pv 4))) le_s) (lw_and1 (lt_cmp (or_ne (hu65 hr)) od_ne (le_var (pv 5)) le_s))))
  (lss_one (ls_ret (le_tup (la_cons (le_var (pv 3)) (la_cons (le_var (pv 4)) (la_cons le_s la_nil))))))
  lss_nil)
  (lss_cons (ls_if (lt_w (lw_and (lt_cmp (or_ne (hu65 hr)) od_ne (le_ix (hu65 hr) (le_ix (hu65 hr) (le_var (pv 0)) (le_var (pv 3))) (le_var (pv 4))) le_s) (lw_and1 (lt_cmp (or_notIn (hu65 hr)) od_in (le_var (pv 5)) (le_ix (hu65 hr) (le_ix (hu65 hr) (le_var (pv 0)) (le_var (pv 3))) (le_var (pv 4)))))))
  (lss_one (ls_ret (le_tup (la_cons (le_var (pv 3)) (la_cons (le_var (pv 4)) (la_cons le_s la_nil))))))
  lss_nil)
  (lss_one (ls_set (ps_set (i := 2) sc.nd rfl (by first | exact Or.inl rfl | exact Or.inr rfl) (le_add (le_var (pv 2)) (le_int rfl h.f_int (la_cons (le_cmp (or_ne (hu65 hr)) od_ne (le_var (pv 5)) le_s) la_nil))))))))))))
  (lss_one (ls_ret (le_tup (la_cons (le_var (pv 2)) la_nil))))))))
abbrev s__law_whole : Stmt := top 34
def D__law_whole : He.DefD := ⟨("_law_whole", none), "_law_whole", "_law_whole", defArgs s__law_whole, defBody s__law_whole, defScope s__law_whole, [], []⟩
theorem o__law_whole {P : Program} {w : World} {K : PySem.W.Frag} {mg : Str → Option Value} {base : Heap} {f : Addr} {fd : FuncData} (h : Fx K w mg) (F : FnP K "_law_whole" s__law_whole f fd) (hm : mg "_law_whole" = some (.ref f)) : OwnAt P w K mg base 1 "_law_whole" ["thing"] F__law_whole f fd := by
  have sc : FnScope ["thing"] ["thing"] (defScope s__law_whole) := ⟨rfl, rfl, rfl, by decide +kernel, rfl, by decide +kernel, by decide +kernel⟩
  refine own_of (d := D__law_whole) (N := ["thing"]) (ds := b__law_whole) F hm sc (fun _ _ _ _ _ _ us hl => match us, hl with | [_], _ => rfl) fun cdv A outer s H E hr => ?_
  unfold b__law_whole 
  exact (lss_one (ls_ret (le_andV (le_isi (T := "int") (by decide) rfl h.f_isinstance rfl h.f_int (by decide +kernel) (le_var (pv 0))) (le_one (le_notV (le_isi (T := "bool") (by decide) rfl h.f_isinstance rfl h.f_bool (by decide +kernel) (le_var (pv 0))))))))
abbrev s__law_same : Stmt := top 35
def D__law_same : He.DefD := ⟨("_law_same", none), "_law_same", "_law_same", defArgs s__law_same, defBody s__law_same, defScope s__law_same, [], []⟩
theorem o__law_same {P : Program} {w : World} {K : PySem.W.Frag} {mg : Str → Option Value} {base : Heap} {f : Addr} {fd : FuncData} (h : Fx K w mg) (F : FnP K "_law_same" s__law_same f fd) (hm : mg "_law_same" = some (.ref f)) (o__law_whole : Own P w K mg base 1 "_law_whole" ["thing"] F__law_whole) : OwnAt P w K mg base 2 "_law_same" ["told", "due"] F__law_same_v1 f fd := by
  have sc : FnScope ["told", "due", "rest", "one", "other", "at"] ["told", "due"] (defScope s__law_same) := ⟨rfl, rfl, rfl, by decide +kernel, rfl, by decide +kernel, by decide +kernel⟩
  refine own_of (d := D__law_same) (N := ["told", "due", "rest", "one", "other", "at"]) (ds := b__law_same_v1) F hm sc (fun _ _ _ _ _ _ us hl => match us, hl with | [_, _], _ => rfl) fun cdv A outer s H E hr => ?_
  unfold b__law_same_v1 L__law_same_v1_1 L__law_same_v1_0
  exact (lss_cons (ls_setM (ps_set (i := 2) sc.nd rfl (by first | exact Or.inl rfl | exact Or.inr rfl) (le_lst (la_cons (le_tup (la_cons (le_var (pv 0)) (la_cons (le_var (pv 1)) la_nil))) la_nil))))
  (lss_cons (ls_while (passes_of rfl) (lt_cmp or_gt od_lt (le_len rfl h.f_len (la_cons (le_var (pv 2)) la_nil)) le_i)
  (lss_cons (ls_asg (le_pop (le_var (pv 2)) ⟨rfl, rfl⟩) (lg_tup rfl (lgs_cons (lg_name (pg_name (i := 3) sc.nd rfl (by first | exact Or.inl rfl | exact Or.inr rfl))) (lgs_cons (lg_name (pg_name (i := 4) sc.nd rfl (by first | exact Or.inl rfl | exact Or.inr rfl))) lgs_nil))))
  (lss_one (ls_if (lt_cmp or_is od_is (le_var (pv 4)) le_n)
  (lss_one (ls_if (lt_cmp or_isnot od_is (le_var (pv 3)) le_n)
  (lss_one (ls_ret le_b))
  lss_nil))
  (lss_one (ls_if (lt_tru (le_isi (T := "bool") (by decide) rfl h.f_isinstance rfl h.f_bool (by decide +kernel) (le_var (pv 4))))
  (lss_one (ls_if (lt_w (lw_or (lt_not (lt_tru (le_isi (T := "bool") (by decide) rfl h.f_isinstance rfl h.f_bool (by decide +kernel) (le_var (pv 3))))) (lw_or1 (lt_cmp (or_ne (hu65 hr)) od_ne (le_var (pv 3)) (le_var (pv 4))))))
  (lss_one (ls_ret le_b))
  lss_nil))
  (lss_one (ls_if (lt_tru (le_isi (T := "str") (by decide) rfl h.f_isinstance rfl h.f_str (by decide +kernel) (le_var (pv 4))))
  (lss_one (ls_if (lt_w (lw_or (lt_not (lt_tru (le_isi (T := "str") (by decide) rfl h.f_isinstance rfl h.f_str (by decide +kernel) (le_var (pv 3))))) (lw_or1 (lt_cmp (or_ne (hu65 hr)) od_ne (le_var (pv 3)) (le_var (pv 4))))))
  (lss_one (ls_ret le_b))
  lss_nil))
  (lss_one (ls_if (lt_tru (le_isi (T := "int") (by decide) rfl h.f_isinstance rfl h.f_int (by decide +kernel) (le_var (pv 4))))
  (lss_one (ls_if (lt_w (lw_or (lt_not (lt_tru (le_call o__law_whole (hr.mono (by decide)) rfl (L2N.takes_of rfl rfl rfl rfl) (la_cons (le_var (pv 3)) la_nil)))) (lw_or1 (lt_cmp (or_ne (hu65 hr)) od_ne (le_var (pv 3)) (le_var (pv 4))))))
  (lss_one (ls_ret le_b))
  lss_nil))
  (lss_cons (ls_if (lt_w (lw_or (lt_w (lw_and (lt_tru (le_isi (T := "list") (by decide) rfl h.f_isinstance rfl h.f_list (by decide +kernel) (le_var (pv 4)))) (lw_and1 (lt_not (lt_tru (le_isi (T := "list") (by decide) rfl h.f_isinstance rfl h.f_list (by decide +kernel) (le_var (pv 3)))))))) (lw_or1 (lt_w (lw_and (lt_tru (le_isi (T := "tuple") (by decide) rfl h.f_isinstance rfl h.f_tuple (by decide +kernel) (le_var (pv 4)))) (lw_and1 (lt_not (lt_tru (le_isi (T := "tuple") (by decide) rfl h.f_isinstance rfl h.f_tuple (by decide +kernel) (le_var (pv 3)))))))))))
  (lss_one (ls_ret le_b))
  lss_nil)
  (lss_cons (ls_if (lt_cmp (or_ne (hu65 hr)) od_ne (le_len rfl h.f_len (la_cons (le_var (pv 3)) la_nil)) (le_len rfl h.f_len (la_cons (le_var (pv 4)) la_nil)))
  (lss_one (ls_ret le_b))
  lss_nil)
  (lss_one (ls_for (passes_of rfl) rfl (li_rng1 rfl h.f_range (la_cons (le_len rfl h.f_len (la_cons (le_var (pv 4)) la_nil)) la_nil)) (lg_name (pg_name (i := 5) sc.nd rfl (by first | exact Or.inl rfl | exact Or.inr rfl)))
  (lss_one (ls_expr (le_append (le_var (pv 2)) (la_cons (le_tup (la_cons (le_ix (hu65 hr) (le_var (pv 3)) (le_var (pv 5))) (la_cons (le_ix (hu65 hr) (le_var (pv 4)) (le_var (pv 5))) la_nil))) la_nil) ⟨rfl, rfl, rfl, rfl, rfl⟩)))))))))))))))))
  (lss_one (ls_ret le_b))))
abbrev s_fits_kind : Stmt := top 7
def D_fits_kind : He.DefD := ⟨("fits_kind", none), "fits_kind", "fits_kind", defArgs s_fits_kind, defBody s_fits_kind, defScope s_fits_kind, [], []⟩
theorem o_fits_kind {P : Program} {w : World} {K : PySem.W.Frag} {mg : Str → Option Value} {base : Heap} {f : Addr} {fd : FuncData} (h : Fx K w mg) (F : FnP K "fits_kind" s_fits_kind f fd) (hm : mg "fits_kind" = some (.ref f)) : OwnAt P w K mg base 1 "fits_kind" ["kind", "sign"] F_fits_kind f fd := by
  have sc : FnScope ["kind", "sign"] ["kind", "sign"] (defScope s_fits_kind) := ⟨rfl, rfl, rfl, by decide +kernel, rfl, by decide +kernel, by decide +kernel⟩
  refine own_of (d := D_fits_kind) (N := ["kind", "sign"]) (ds := b_fits_kind) F hm sc (fun _ _ _ _ _ _ us hl => match us, hl with | [_, _], _ => rfl) fun cdv A outer s H E hr => ?_
  unfold b_fits_kind 
  exact (lss_one (ls_ret (le_ifE (lt_cmp (or_eq (hu65 hr)) od_eq (le_var (pv 0)) le_s) (le_cmp (or_eq (hu65 hr)) od_eq (le_var (pv 1)) le_s) (le_cmp (or_in (hu65 hr)) od_in (le_var (pv 1)) (le_var (pv 0))))))
abbrev s_look_at_sign : Stmt := top 10
def D_look_at_sign : He.DefD := ⟨("look_at_sign", none), "look_at_sign", "look_at_sign", defArgs s_look_at_sign, defBody s_look_at_sign, defScope s_look_at_sign, [], []⟩
theorem o_look_at_sign {P : Program} {w : World} {K : PySem.W.Frag} {mg : Str → Option Value} {base : Heap} {f : Addr} {fd : FuncData} (h : Fx K w mg) (F : FnP K "look_at_sign" s_look_at_sign f fd) (hm : mg "look_at_sign" = some (.ref f)) (o_fits_kind : Own P w K mg base 1 "fits_kind" ["kind", "sign"] F_fits_kind) (i_BadSetting : Mkr P w K mg base 1 "BadSetting" 4 [("row", 1), ("column", 2), ("word", 3)]) : OwnAt P w K mg base 3 "look_at_sign" ["board", "row", "column", "sign"] F_look_at_sign f fd := by
  have sc : FnScope ["board", "row", "column", "sign"] ["board", "row", "column", "sign"] (defScope s_look_at_sign) := ⟨rfl, rfl, rfl, by decide +kernel, rfl, by decide +kernel, by decide +kernel⟩
  refine own_of (d := D_look_at_sign) (N := ["board", "row", "column", "sign"]) (ds := b_look_at_sign) F hm sc (fun _ _ _ _ _ _ us hl => match us, hl with | [_, _, _, _], _ => rfl) fun cdv A outer s H E hr => ?_
  unfold b_look_at_sign 
  exact (lss_one (ls_if (lt_not (lt_tru (le_call o_fits_kind (hr.mono (by decide)) rfl (L2N.takes_of rfl rfl rfl rfl) (la_cons (le_ix (hu65 hr) (le_ix (hu65 hr) (le_var (pv 0)) (le_var (pv 1))) (le_var (pv 2))) (la_cons (le_var (pv 3)) la_nil)))))
  (lss_one (ls_raise i_BadSetting (hr.mono (by decide)) rfl rfl (L2N.takes_of rfl rfl rfl rfl) (la_cons (le_var (pv 1)) (la_cons (le_var (pv 2)) (la_cons (le_ifE (lt_cmp (or_eq (hu65 hr)) od_eq (le_ix (hu65 hr) (le_ix (hu65 hr) (le_var (pv 0)) (le_var (pv 1))) (le_var (pv 2))) le_s) le_s le_s) la_nil))) (by decide) (by decide)))
  lss_nil))
abbrev s_check_setting : Stmt := top 9
def D_check_setting : He.DefD := ⟨("check_setting", none), "check_setting", "check_setting", defArgs s_check_setting, defBody s_check_setting, defScope s_check_setting, [], []⟩
theorem o_check_setting {P : Program} {w : World} {K : PySem.W.Frag} {mg : Str → Option Value} {base : Heap} {f : Addr} {fd : FuncData} (h : Fx K w mg) (F : FnP K "check_setting" s_check_setting f fd) (hm : mg "check_setting" = some (.ref f)) (i_BadSetting : Mkr P w K mg base 1 "BadSetting" 4 [("row", 1), ("column", 2), ("word", 3)]) (o_look_at_sign : Own P w K mg base 3 "look_at_sign" ["board", "row", "column", "sign"] F_look_at_sign) : OwnAt P w K mg base 4 "check_setting" ["board", "thing"] F_check_setting f fd := by
  have sc : FnScope ["board", "thing", "row", "many", "column"] ["board", "thing"] (defScope s_check_setting) := ⟨rfl, rfl, rfl, by decide +kernel, rfl, by decide +kernel, by decide +kernel⟩
  refine own_of (d := D_check_setting) (N := ["board", "thing", "row", "many", "column"]) (ds := b_check_setting) F hm sc (fun _ _ _ _ _ _ us hl => match us, hl with | [_, _], _ => rfl) fun cdv A outer s H E hr => ?_
  unfold b_check_setting L_check_setting_2 L_check_setting_1 L_check_setting_0
  exact (lss_cons (ls_if (lt_w (lw_or (lt_not (lt_tru (le_isi (T := "tuple") (by decide) rfl h.f_isinstance rfl h.f_tuple (by decide +kernel) (le_var (pv 1))))) (lw_or1 (lt_cmp (or_ne (hu65 hr)) od_ne (le_len rfl h.f_len (la_cons (le_var (pv 1)) la_nil)) (le_len rfl h.f_len (la_cons (le_var (pv 0)) la_nil))))))
  (lss_one (ls_raise i_BadSetting (hr.mono (by decide)) rfl rfl (L2N.takes_of rfl rfl rfl rfl) (la_cons (le_neg le_i) (la_cons (le_neg le_i) (la_cons le_s la_nil))) (by decide) (by decide)))
  lss_nil)
  (lss_cons (ls_for (passes_of rfl) rfl (li_rng1 rfl h.f_range (la_cons (le_len rfl h.f_len (la_cons (le_var (pv 0)) la_nil)) la_nil)) (lg_name (pg_name (i := 2) sc.nd rfl (by first | exact Or.inl rfl | exact Or.inr rfl)))
  (lss_one (ls_if (lt_w (lw_or (lt_not (lt_tru (le_isi (T := "str") (by decide) rfl h.f_isinstance rfl h.f_str (by decide +kernel) (le_ix (hu65 hr) (le_var (pv 1)) (le_var (pv 2)))))) (lw_or1 (lt_cmp (or_ne (hu65 hr)) od_ne (le_len rfl h.f_len (la_cons (le_ix (hu65 hr) (le_var (pv 1)) (le_var (pv 2))) la_nil)) (le_len rfl h.f_len (la_cons (le_ix (hu65 hr) (le_var (pv 0)) (le_var (pv 2))) la_nil))))))
  (lss_one (ls_raise i_BadSetting (hr.mono (by decide)) rfl rfl (L2N.takes_of rfl rfl rfl rfl) (la_cons (le_var (pv 2)) (la_cons (le_neg le_i) (la_cons le_s la_nil))) (by decide) (by decide)))
  lss_nil)))
  (lss_cons (ls_set (ps_set (i := 3) sc.nd rfl (by first | exact Or.inl rfl | exact Or.inr rfl) le_i))
  (lss_cons (ls_for (passes_of rfl) rfl (li_rng1 rfl h.f_range (la_cons (le_len rfl h.f_len (la_cons (le_var (pv 0)) la_nil)) la_nil)) (lg_name (pg_name (i := 2) sc.nd rfl (by first | exact Or.inl rfl | exact Or.inr rfl)))
  (lss_one (ls_for (passes_of rfl) rfl (li_rng1 rfl h.f_range (la_cons (le_len rfl h.f_len (la_cons (le_ix (hu65 hr) (le_var (pv 0)) (le_var (pv 2))) la_nil)) la_nil)) (lg_name (pg_name (i := 4) sc.nd rfl (by first | exact Or.inl rfl | exact Or.inr rfl)))
  (lss_cons (ls_expr (le_call o_look_at_sign (hr.mono (by decide)) rfl (L2N.takes_of rfl rfl rfl rfl) (la_cons (le_var (pv 0)) (la_cons (le_var (pv 2)) (la_cons (le_var (pv 4)) (la_cons (le_ix (hu65 hr) (le_ix (hu65 hr) (le_var (pv 1)) (le_var (pv 2))) (le_var (pv 4))) la_nil))))))
  (lss_one (ls_if (lt_cmp (or_ne (hu65 hr)) od_ne (le_ix (hu65 hr) (le_ix (hu65 hr) (le_var (pv 0)) (le_var (pv 2))) (le_var (pv 4))) le_s)
  (lss_one (ls_aug od_addI (ps_aug (i := 3) sc.nd rfl (by first | exact Or.inl rfl | exact Or.inr rfl) le_i (pip_addI))))
  lss_nil))))))
  (lss_one (ls_ret (le_var (pv 3))))))))
abbrev s__law_told : Stmt := top 39
def D__law_told : He.DefD := ⟨("_law_told", none), "_law_told", "_law_told", defArgs s__law_told, defBody s__law_told, defScope s__law_told, [], []⟩
theorem o__law_told {P : Program} {w : World} {K : PySem.W.Frag} {mg : Str → Option Value} {base : Heap} {f : Addr} {fd : FuncData} (h : Fx K w mg) (F : FnP K "_law_told" s__law_told f fd) (hm : mg "_law_told" = some (.ref f)) (o_check_setting : Own P w K mg base 4 "check_setting" ["board", "thing"] F_check_setting) : OwnAt P w K mg base 5 "_law_told" ["board", "thing"] F__law_told_v5 f fd := by
  have sc : FnScope ["board", "thing", "e"] ["board", "thing"] (defScope s__law_told) := ⟨rfl, rfl, rfl, by decide +kernel, rfl, by decide +kernel, by decide +kernel⟩
  refine own_of (d := D__law_told) (N := ["board", "thing", "e"]) (ds := b__law_told_v5) F hm sc (fun _ _ _ _ _ _ us hl => match us, hl with | [_, _], _ => rfl) fun cdv A outer s H E hr => ?_
  unfold b__law_told_v5 
  exact (lss_one (ls_try rfl rfl sc.nd (L2N.takes_of rfl rfl rfl rfl) (fun V ps xe tk1 pa1 =>
  (lss_one (ls_ret (le_tup (la_cons (le_call o_check_setting (hr.mono (by decide)) rfl tk1 (la_cons (le_var (pv 0)) (la_cons (le_var (pv 1)) la_nil))) la_nil)))))
  (.as_ rfl (by decide) h.x_BadSetting_0 rfl rfl (fun p C ob ps hpi hk hmC Tx hno hz hzn hd => (lss_one (ls_ret (le_tup (la_cons (le_pin hpi Tx (hno _ (by simp)) hz hd (pv 2)) (la_cons (le_pin hpi Tx (hno _ (by simp)) hz hd (pv 2)) (la_cons (le_pin hpi Tx (hno _ (by simp)) hz hd (pv 2)) la_nil))))))) (.one rfl (by decide) h.x_LightError_1 (fun k fs C a d ob ps hmC hzn hd => (lss_one (ls_ret (le_tup (la_cons le_s (la_cons le_s la_nil)))))) .nil))))
abbrev s_is_setting : Stmt := top 11
def D_is_setting : He.DefD := ⟨("is_setting", none), "is_setting", "is_setting", defArgs s_is_setting, defBody s_is_setting, defScope s_is_setting, [], []⟩
theorem o_is_setting {P : Program} {w : World} {K : PySem.W.Frag} {mg : Str → Option Value} {base : Heap} {f : Addr} {fd : FuncData} (h : Fx K w mg) (F : FnP K "is_setting" s_is_setting f fd) (hm : mg "is_setting" = some (.ref f)) (o_check_setting : Own P w K mg base 4 "check_setting" ["board", "thing"] F_check_setting) : OwnAt P w K mg base 5 "is_setting" ["board", "thing"] F_is_setting f fd := by
  have sc : FnScope ["board", "thing"] ["board", "thing"] (defScope s_is_setting) := ⟨rfl, rfl, rfl, by decide +kernel, rfl, by decide +kernel, by decide +kernel⟩
  refine own_of (d := D_is_setting) (N := ["board", "thing"]) (ds := b_is_setting) F hm sc (fun _ _ _ _ _ _ us hl => match us, hl with | [_, _], _ => rfl) fun cdv A outer s H E hr => ?_
  unfold b_is_setting 
  exact (lss_cons (ls_try rfl rfl sc.nd (L2N.takes_of rfl rfl rfl rfl) (fun V ps xe tk1 pa1 =>
  (lss_one (ls_expr (le_call o_check_setting (hr.mono (by decide)) rfl tk1 (la_cons (le_var (pv 0)) (la_cons (le_var (pv 1)) la_nil))))))
  (.one rfl (by decide) h.x_BadSetting_2 (fun k fs C a d ob ps hmC hzn hd => (lss_one (ls_ret le_b))) .nil))
  (lss_one (ls_ret le_b)))
abbrev s__law_judged : Stmt := top 40
def D__law_judged : He.DefD := ⟨("_law_judged", none), "_law_judged", "_law_judged", defArgs s__law_judged, defBody s__law_judged, defScope s__law_judged, [], []⟩
theorem o__law_judged {P : Program} {w : World} {K : PySem.W.Frag} {mg : Str → Option Value} {base : Heap} {f : Addr} {fd : FuncData} (h : Fx K w mg) (F : FnP K "_law_judged" s__law_judged f fd) (hm : mg "_law_judged" = some (.ref f)) (o__law_fault : Own P w K mg base 1 "_law_fault" ["board", "thing"] F__law_fault) (o__law_same : Own P w K mg base 2 "_law_same" ["told", "due"] F__law_same_v1) (o__law_told : Own P w K mg base 5 "_law_told" ["board", "thing"] F__law_told_v5) (o_is_setting : Own P w K mg base 5 "is_setting" ["board", "thing"] F_is_setting) : OwnAt P w K mg base 6 "_law_judged" ["board", "thing"] F__law_judged f fd := by
  have sc : FnScope ["board", "thing", "due"] ["board", "thing"] (defScope s__law_judged) := ⟨rfl, rfl, rfl, by decide +kernel, rfl, by decide +kernel, by decide +kernel⟩
  refine own_of (d := D__law_judged) (N := ["board", "thing", "due"]) (ds := b__law_judged) F hm sc (fun _ _ _ _ _ _ us hl => match us, hl with | [_, _], _ => rfl) fun cdv A outer s H E hr => ?_
  unfold b__law_judged 
  exact (lss_cons (ls_set (ps_set (i := 2) sc.nd rfl (by first | exact Or.inl rfl | exact Or.inr rfl) (le_call o__law_fault (hr.mono (by decide)) rfl (L2N.takes_of rfl rfl rfl rfl) (la_cons (le_var (pv 0)) (la_cons (le_var (pv 1)) la_nil)))))
  (lss_one (ls_ret (le_andV (le_call o__law_same (hr.mono (by decide)) rfl (L2N.takes_of rfl rfl rfl rfl) (la_cons (le_call o__law_told (hr.mono (by decide)) rfl (L2N.takes_of rfl rfl rfl rfl) (la_cons (le_var (pv 0)) (la_cons (le_var (pv 1)) la_nil))) (la_cons (le_var (pv 2)) la_nil))) (le_one (le_call o__law_same (hr.mono (by decide)) rfl (L2N.takes_of rfl rfl rfl rfl) (la_cons (le_call o_is_setting (hr.mono (by decide)) rfl (L2N.takes_of rfl rfl rfl rfl) (la_cons (le_var (pv 0)) (la_cons (le_var (pv 1)) la_nil))) (la_cons (le_cmp (or_eq (hu65 hr)) od_eq (le_len rfl h.f_len (la_cons (le_var (pv 2)) la_nil)) le_i) la_nil))))))))
abbrev s__law_setting : Stmt := top 37
def D__law_setting : He.DefD := ⟨("_law_setting", none), "_law_setting", "_law_setting", defArgs s__law_setting, defBody s__law_setting, defScope s__law_setting, [], []⟩
theorem o__law_setting {P : Program} {w : World} {K : PySem.W.Frag} {mg : Str → Option Value} {base : Heap} {f : Addr} {fd : FuncData} (h : Fx K w mg) (F : FnP K "_law_setting" s__law_setting f fd) (hm : mg "_law_setting" = some (.ref f)) (o__law_pull : Own P w K mg base 1 "_law_pull" ["chest", "many"] F__law_pull_v1) : OwnAt P w K mg base 2 "_law_setting" ["chest", "board"] F__law_setting_v1 f fd := by
  have sc : FnScope ["chest", "board", "habit", "told", "row", "signs", "kind"] ["chest", "board"] (defScope s__law_setting) := ⟨rfl, rfl, rfl, by decide +kernel, rfl, by decide +kernel, by decide +kernel⟩
  refine own_of (d := D__law_setting) (N := ["chest", "board", "habit", "told", "row", "signs", "kind"]) (ds := b__law_setting_v1) F hm sc (fun _ _ _ _ _ _ us hl => match us, hl with | [_, _], _ => rfl) fun cdv A outer s H E hr => ?_
  unfold b__law_setting_v1 L__law_setting_v1_1 L__law_setting_v1_0
  exact (lss_cons (ls_set (ps_set (i := 2) sc.nd rfl (by first | exact Or.inl rfl | exact Or.inr rfl) (le_call o__law_pull (hr.mono (by decide)) rfl (L2N.takes_of rfl rfl rfl rfl) (la_cons (le_var (pv 0)) (la_cons le_i la_nil)))))
  (lss_cons (ls_setM (ps_set (i := 3) sc.nd rfl (by first | exact Or.inl rfl | exact Or.inr rfl) (le_lst la_nil)))
  (lss_cons (ls_for (passes_of rfl) rfl (li_seq (le_var (pv 1))) (lg_name (pg_name (i := 4) sc.nd rfl (by first | exact Or.inl rfl | exact Or.inr rfl)))
  (lss_cons (ls_set (ps_set (i := 5) sc.nd rfl (by first | exact Or.inl rfl | exact Or.inr rfl) le_s))
  (lss_cons (ls_for (passes_of rfl) rfl (li_seq (le_var (pv 4))) (lg_name (pg_name (i := 6) sc.nd rfl (by first | exact Or.inl rfl | exact Or.inr rfl)))
  (lss_one (ls_if (lt_cmp (or_eq (hu65 hr)) od_eq (le_var (pv 6)) le_s)
  (lss_one (ls_set (ps_set (i := 5) sc.nd rfl (by first | exact Or.inl rfl | exact Or.inr rfl) (le_add (le_var (pv 5)) le_s))))
  (lss_one (ls_if (lt_cmp or_lt od_lt (le_var (pv 2)) le_i)
  (lss_one (ls_set (ps_set (i := 5) sc.nd rfl (by first | exact Or.inl rfl | exact Or.inr rfl) (le_add (le_var (pv 5)) (le_ix (hu65 hr) (le_var (pv 6)) (le_call o__law_pull (hr.mono (by decide)) rfl (L2N.takes_of rfl rfl rfl rfl) (la_cons (le_var (pv 0)) (la_cons (le_len rfl h.f_len (la_cons (le_var (pv 6)) la_nil)) la_nil))))))))
  (lss_one (ls_set (ps_set (i := 5) sc.nd rfl (by first | exact Or.inl rfl | exact Or.inr rfl) (le_add (le_var (pv 5)) (le_ifE (lt_cmp (or_eq (hu65 hr)) od_eq (le_var (pv 2)) le_i) (le_ix (hu65 hr) (le_var (pv 6)) le_i) (le_ix (hu65 hr) (le_var (pv 6)) (le_neg le_i))))))))))))
  (lss_one (ls_expr (le_append (le_var (pv 3)) (la_cons (le_var (pv 5)) la_nil) ⟨rfl, rfl, rfl, rfl, rfl⟩))))))
  (lss_one (ls_ret (le_tuple rfl rfl h.f_tuple (la_cons (le_var (pv 3)) la_nil)))))))
abbrev s_is_whole : Stmt := top 18
def D_is_whole : He.DefD := ⟨("is_whole", none), "is_whole", "is_whole", defArgs s_is_whole, defBody s_is_whole, defScope s_is_whole, [], []⟩
theorem o_is_whole {P : Program} {w : World} {K : PySem.W.Frag} {mg : Str → Option Value} {base : Heap} {f : Addr} {fd : FuncData} (h : Fx K w mg) (F : FnP K "is_whole" s_is_whole f fd) (hm : mg "is_whole" = some (.ref f)) : OwnAt P w K mg base 1 "is_whole" ["thing"] F_is_whole f fd := by
  have sc : FnScope ["thing"] ["thing"] (defScope s_is_whole) := ⟨rfl, rfl, rfl, by decide +kernel, rfl, by decide +kernel, by decide +kernel⟩
  refine own_of (d := D_is_whole) (N := ["thing"]) (ds := b_is_whole) F hm sc (fun _ _ _ _ _ _ us hl => match us, hl with | [_], _ => rfl) fun cdv A outer s H E hr => ?_
  unfold b_is_whole 
  exact (lss_one (ls_ret (le_andV (le_isi (T := "int") (by decide) rfl h.f_isinstance rfl h.f_int (by decide +kernel) (le_var (pv 0))) (le_one (le_notV (le_isi (T := "bool") (by decide) rfl h.f_isinstance rfl h.f_bool (by decide +kernel) (le_var (pv 0))))))))
abbrev s_is_number : Stmt := top 19
def D_is_number : He.DefD := ⟨("is_number", none), "is_number", "is_number", defArgs s_is_number, defBody s_is_number, defScope s_is_number, [], []⟩
theorem o_is_number {P : Program} {w : World} {K : PySem.W.Frag} {mg : Str → Option Value} {base : Heap} {f : Addr} {fd : FuncData} (h : Fx K w mg) (F : FnP K "is_number" s_is_number f fd) (hm : mg "is_number" = some (.ref f)) (o_is_whole : Own P w K mg base 1 "is_whole" ["thing"] F_is_whole) : OwnAt P w K mg base 2 "is_number" ["thing"] F_is_number f fd := by
  have sc : FnScope ["thing"] ["thing"] (defScope s_is_number) := ⟨rfl, rfl, rfl, by decide +kernel, rfl, by decide +kernel, by decide +kernel⟩
  refine own_of (d := D_is_number) (N := ["thing"]) (ds := b_is_number) F hm sc (fun _ _ _ _ _ _ us hl => match us, hl with | [_], _ => rfl) fun cdv A outer s H E hr => ?_
  unfold b_is_number 
  exact (lss_one (ls_ret (le_andV (le_call o_is_whole (hr.mono (by decide)) rfl (L2N.takes_of rfl rfl rfl rfl) (la_cons (le_var (pv 0)) la_nil)) (le_one (le_cmp or_ge od_lt (le_var (pv 0)) le_i)))))
abbrev s_letter_at : Stmt := top 26
def D_letter_at : He.DefD := ⟨("letter_at", none), "letter_at", "letter_at", defArgs s_letter_at, defBody s_letter_at, defScope s_letter_at, [], []⟩
theorem o_letter_at {P : Program} {w : World} {K : PySem.W.Frag} {mg : Str → Option Value} {base : Heap} {f : Addr} {fd : FuncData} (h : Fx K w mg) (F : FnP K "letter_at" s_letter_at f fd) (hm : mg "letter_at" = some (.ref f)) (o_is_number : Own P w K mg base 2 "is_number" ["thing"] F_is_number) (i_BadStep : Mkr P w K mg base 1 "BadStep" 2 [("word", 1)]) : OwnAt P w K mg base 3 "letter_at" ["setting", "row", "column"] F_letter_at f fd := by
  have sc : FnScope ["setting", "row", "column"] ["setting", "row", "column"] (defScope s_letter_at) := ⟨rfl, rfl, rfl, by decide +kernel, rfl, by decide +kernel, by decide +kernel⟩
  refine own_of (d := D_letter_at) (N := ["setting", "row", "column"]) (ds := b_letter_at) F hm sc (fun _ _ _ _ _ _ us hl => match us, hl with | [_, _, _], _ => rfl) fun cdv A outer s H E hr => ?_
  unfold b_letter_at 
  exact (lss_cons (ls_if (lt_w (lw_or (lt_not (lt_tru (le_call o_is_number (hr.mono (by decide)) rfl (L2N.takes_of rfl rfl rfl rfl) (la_cons (le_var (pv 1)) la_nil)))) (lw_or (lt_cmp or_ge od_lt (le_var (pv 1)) (le_len rfl h.f_len (la_cons (le_var (pv 0)) la_nil))) (lw_or (lt_not (lt_tru (le_call o_is_number (hr.mono (by decide)) rfl (L2N.takes_of rfl rfl rfl rfl) (la_cons (le_var (pv 2)) la_nil)))) (lw_or1 (lt_cmp or_ge od_lt (le_var (pv 2)) (le_len rfl h.f_len (la_cons (le_ix (hu65 hr) (le_var (pv 0)) le_i) la_nil))))))))
  (lss_one (ls_raise i_BadStep (hr.mono (by decide)) rfl rfl (L2N.takes_of rfl rfl rfl rfl) (la_cons le_s la_nil) (by decide) (by decide)))
  lss_nil)
  (lss_one (ls_ret (le_ix (hu65 hr) (le_ix (hu65 hr) (le_var (pv 0)) (le_var (pv 1))) (le_var (pv 2))))))
abbrev s_has_cell : Stmt := top 16
def D_has_cell : He.DefD := ⟨("has_cell", none), "has_cell", "has_cell", defArgs s_has_cell, defBody s_has_cell, defScope s_has_cell, [], []⟩
theorem o_has_cell {P : Program} {w : World} {K : PySem.W.Frag} {mg : Str → Option Value} {base : Heap} {f : Addr} {fd : FuncData} (h : Fx K w mg) (F : FnP K "has_cell" s_has_cell f fd) (hm : mg "has_cell" = some (.ref f)) : OwnAt P w K mg base 1 "has_cell" ["board", "row", "column"] F_has_cell f fd := by
  have sc : FnScope ["board", "row", "column"] ["board", "row", "column"] (defScope s_has_cell) := ⟨rfl, rfl, rfl, by decide +kernel, rfl, by decide +kernel, by decide +kernel⟩
  refine own_of (d := D_has_cell) (N := ["board", "row", "column"]) (ds := b_has_cell) F hm sc (fun _ _ _ _ _ _ us hl => match us, hl with | [_, _, _], _ => rfl) fun cdv A outer s H E hr => ?_
  unfold b_has_cell 
  exact (lss_one (ls_ret (le_andV (le_chain or_le od_lt or_lt od_lt le_i (le_var (pv 1)) (le_len rfl h.f_len (la_cons (le_var (pv 0)) la_nil))) (le_one (le_chain or_le od_lt or_lt od_lt le_i (le_var (pv 2)) (le_len rfl h.f_len (la_cons (le_ix (hu65 hr) (le_var (pv 0)) le_i) la_nil)))))))
abbrev s_look_for_cell : Stmt := top 21
def D_look_for_cell : He.DefD := ⟨("look_for_cell", none), "look_for_cell", "look_for_cell", defArgs s_look_for_cell, defBody s_look_for_cell, defScope s_look_for_cell, [], []⟩
theorem o_look_for_cell {P : Program} {w : World} {K : PySem.W.Frag} {mg : Str → Option Value} {base : Heap} {f : Addr} {fd : FuncData} (h : Fx K w mg) (F : FnP K "look_for_cell" s_look_for_cell f fd) (hm : mg "look_for_cell" = some (.ref f)) (o_is_whole : Own P w K mg base 1 "is_whole" ["thing"] F_is_whole) (o_has_cell : Own P w K mg base 1 "has_cell" ["board", "row", "column"] F_has_cell) (i_BadStep : Mkr P w K mg base 1 "BadStep" 2 [("word", 1)]) : OwnAt P w K mg base 3 "look_for_cell" ["board", "row", "column"] F_look_for_cell f fd := by
  have sc : FnScope ["board", "row", "column"] ["board", "row", "column"] (defScope s_look_for_cell) := ⟨rfl, rfl, rfl, by decide +kernel, rfl, by decide +kernel, by decide +kernel⟩
  refine own_of (d := D_look_for_cell) (N := ["board", "row", "column"]) (ds := b_look_for_cell) F hm sc (fun _ _ _ _ _ _ us hl => match us, hl with | [_, _, _], _ => rfl) fun cdv A outer s H E hr => ?_
  unfold b_look_for_cell 
  exact (lss_one (ls_if (lt_w (lw_or (lt_not (lt_tru (le_call o_is_whole (hr.mono (by decide)) rfl (L2N.takes_of rfl rfl rfl rfl) (la_cons (le_var (pv 1)) la_nil)))) (lw_or (lt_not (lt_tru (le_call o_is_whole (hr.mono (by decide)) rfl (L2N.takes_of rfl rfl rfl rfl) (la_cons (le_var (pv 2)) la_nil)))) (lw_or1 (lt_not (lt_tru (le_call o_has_cell (hr.mono (by decide)) rfl (L2N.takes_of rfl rfl rfl rfl) (la_cons (le_var (pv 0)) (la_cons (le_var (pv 1)) (la_cons (le_var (pv 2)) la_nil))))))))))
  (lss_one (ls_raise i_BadStep (hr.mono (by decide)) rfl rfl (L2N.takes_of rfl rfl rfl rfl) (la_cons le_s la_nil) (by decide) (by decide)))
  lss_nil))
abbrev s_look_for_open : Stmt := top 22
def D_look_for_open : He.DefD := ⟨("look_for_open", none), "look_for_open", "look_for_open", defArgs s_look_for_open, defBody s_look_for_open, defScope s_look_for_open, [], []⟩
theorem o_look_for_open {P : Program} {w : World} {K : PySem.W.Frag} {mg : Str → Option Value} {base : Heap} {f : Addr} {fd : FuncData} (h : Fx K w mg) (F : FnP K "look_for_open" s_look_for_open f fd) (hm : mg "look_for_open" = some (.ref f)) (o_look_for_cell : Own P w K mg base 3 "look_for_cell" ["board", "row", "column"] F_look_for_cell) (i_BadStep : Mkr P w K mg base 1 "BadStep" 2 [("word", 1)]) : OwnAt P w K mg base 4 "look_for_open" ["board", "row", "column"] F_look_for_open f fd := by
  have sc : FnScope ["board", "row", "column"] ["board", "row", "column"] (defScope s_look_for_open) := ⟨rfl, rfl, rfl, by decide +kernel, rfl, by decide +kernel, by decide +kernel⟩
  refine own_of (d := D_look_for_open) (N := ["board", "row", "column"]) (ds := b_look_for_open) F hm sc (fun _ _ _ _ _ _ us hl => match us, hl with | [_, _, _], _ => rfl) fun cdv A outer s H E hr => ?_
  unfold b_look_for_open 
  exact (lss_cons (ls_expr (le_call o_look_for_cell (hr.mono (by decide)) rfl (L2N.takes_of rfl rfl rfl rfl) (la_cons (le_var (pv 0)) (la_cons (le_var (pv 1)) (la_cons (le_var (pv 2)) la_nil)))))
  (lss_one (ls_if (lt_cmp (or_eq (hu65 hr)) od_eq (le_ix (hu65 hr) (le_ix (hu65 hr) (le_var (pv 0)) (le_var (pv 1))) (le_var (pv 2))) le_s)
  (lss_one (ls_raise i_BadStep (hr.mono (by decide)) rfl rfl (L2N.takes_of rfl rfl rfl rfl) (la_cons le_s la_nil) (by decide) (by decide)))
  lss_nil)))
abbrev s_put_sign : Stmt := top 27
def D_put_sign : He.DefD := ⟨("put_sign", none), "put_sign", "put_sign", defArgs s_put_sign, defBody s_put_sign, defScope s_put_sign, [], []⟩
theorem o_put_sign {P : Program} {w : World} {K : PySem.W.Frag} {mg : Str → Option Value} {base : Heap} {f : Addr} {fd : FuncData} (h : Fx K w mg) (F : FnP K "put_sign" s_put_sign f fd) (hm : mg "put_sign" = some (.ref f)) : OwnAt P w K mg base 1 "put_sign" ["setting", "row", "column", "sign"] F_put_sign f fd := by
  have sc : FnScope ["setting", "row", "column", "sign", "line"] ["setting", "row", "column", "sign"] (defScope s_put_sign) := ⟨rfl, rfl, rfl, by decide +kernel, rfl, by decide +kernel, by decide +kernel⟩
  refine own_of (d := D_put_sign) (N := ["setting", "row", "column", "sign", "line"]) (ds := b_put_sign) F hm sc (fun _ _ _ _ _ _ us hl => match us, hl with | [_, _, _, _], _ => rfl) fun cdv A outer s H E hr => ?_
  unfold b_put_sign 
  exact (lss_cons (ls_set (ps_set (i := 4) sc.nd rfl (by first | exact Or.inl rfl | exact Or.inr rfl) (le_add (le_add (le_sl (le_ix (hu65 hr) (le_var (pv 0)) (le_var (pv 1))) lo_none (lo_some (le_var (pv 2)))) (le_var (pv 3))) (le_sl (le_ix (hu65 hr) (le_var (pv 0)) (le_var (pv 1))) (lo_some (le_add (le_var (pv 2)) le_i)) lo_none))))
  (lss_one (ls_ret (le_add (le_add (le_sl (le_var (pv 0)) lo_none (lo_some (le_var (pv 1)))) (le_tup (la_cons (le_var (pv 4)) la_nil))) (le_sl (le_var (pv 0)) (lo_some (le_add (le_var (pv 1)) le_i)) lo_none)))))
abbrev s_is_letter : Stmt := top 14
def D_is_letter : He.DefD := ⟨("is_letter", none), "is_letter", "is_letter", defArgs s_is_letter, defBody s_is_letter, defScope s_is_letter, [], []⟩
theorem o_is_letter {P : Program} {w : World} {K : PySem.W.Frag} {mg : Str → Option Value} {base : Heap} {f : Addr} {fd : FuncData} (h : Fx K w mg) (F : FnP K "is_letter" s_is_letter f fd) (hm : mg "is_letter" = some (.ref f)) : OwnAt P w K mg base 1 "is_letter" ["thing"] F_is_letter f fd := by
  have sc : FnScope ["thing"] ["thing"] (defScope s_is_letter) := ⟨rfl, rfl, rfl, by decide +kernel, rfl, by decide +kernel, by decide +kernel⟩
  refine own_of (d := D_is_letter) (N := ["thing"]) (ds := b_is_letter) F hm sc (fun _ _ _ _ _ _ us hl => match us, hl with | [_], _ => rfl) fun cdv A outer s H E hr => ?_
  unfold b_is_letter 
  exact (lss_one (ls_ret (le_andV (le_isi (T := "str") (by decide) rfl h.f_isinstance rfl h.f_str (by decide +kernel) (le_var (pv 0))) (le_andV (le_cmp (or_eq (hu65 hr)) od_eq (le_len rfl h.f_len (la_cons (le_var (pv 0)) la_nil)) le_i) (le_one (le_cmp (or_in (hu65 hr)) od_in (le_var (pv 0)) (le_g rfl h.g_LETTERS)))))))
abbrev s_with_sign : Stmt := top 28
def D_with_sign : He.DefD := ⟨("with_sign", none), "with_sign", "with_sign", defArgs s_with_sign, defBody s_with_sign, defScope s_with_sign, [], []⟩
theorem o_with_sign {P : Program} {w : World} {K : PySem.W.Frag} {mg : Str → Option Value} {base : Heap} {f : Addr} {fd : FuncData} (h : Fx K w mg) (F : FnP K "with_sign" s_with_sign f fd) (hm : mg "with_sign" = some (.ref f)) (o_is_letter : Own P w K mg base 1 "is_letter" ["thing"] F_is_letter) (i_BadStep : Mkr P w K mg base 1 "BadStep" 2 [("word", 1)]) (o_look_for_open : Own P w K mg base 4 "look_for_open" ["board", "row", "column"] F_look_for_open) (o_put_sign : Own P w K mg base 1 "put_sign" ["setting", "row", "column", "sign"] F_put_sign) : OwnAt P w K mg base 5 "with_sign" ["board", "setting", "row", "column", "letter"] F_with_sign f fd := by
  have sc : FnScope ["board", "setting", "row", "column", "letter"] ["board", "setting", "row", "column", "letter"] (defScope s_with_sign) := ⟨rfl, rfl, rfl, by decide +kernel, rfl, by decide +kernel, by decide +kernel⟩
  refine own_of (d := D_with_sign) (N := ["board", "setting", "row", "column", "letter"]) (ds := b_with_sign) F hm sc (fun _ _ _ _ _ _ us hl => match us, hl with | [_, _, _, _, _], _ => rfl) fun cdv A outer s H E hr => ?_
  unfold b_with_sign 
  exact (lss_cons (ls_if (lt_not (lt_tru (le_call o_is_letter (hr.mono (by decide)) rfl (L2N.takes_of rfl rfl rfl rfl) (la_cons (le_var (pv 4)) la_nil))))
  (lss_one (ls_raise i_BadStep (hr.mono (by decide)) rfl rfl (L2N.takes_of rfl rfl rfl rfl) (la_cons le_s la_nil) (by decide) (by decide)))
  lss_nil)
  (lss_cons (ls_expr (le_call o_look_for_open (hr.mono (by decide)) rfl (L2N.takes_of rfl rfl rfl rfl) (la_cons (le_var (pv 0)) (la_cons (le_var (pv 2)) (la_cons (le_var (pv 3)) la_nil)))))
  (lss_cons (ls_if (lt_cmp (or_notIn (hu65 hr)) od_in (le_var (pv 4)) (le_ix (hu65 hr) (le_ix (hu65 hr) (le_var (pv 0)) (le_var (pv 2))) (le_var (pv 3))))
  (lss_one (ls_raise i_BadStep (hr.mono (by decide)) rfl rfl (L2N.takes_of rfl rfl rfl rfl) (la_cons le_s la_nil) (by decide) (by decide)))
  lss_nil)
  (lss_one (ls_ret (le_call o_put_sign (hr.mono (by decide)) rfl (L2N.takes_of rfl rfl rfl rfl) (la_cons (le_var (pv 1)) (la_cons (le_var (pv 2)) (la_cons (le_var (pv 3)) (la_cons (le_var (pv 4)) la_nil))))))))))
abbrev s__law_word : Stmt := top 45
def D__law_word : He.DefD := ⟨("_law_word", none), "_law_word", "_law_word", defArgs s__law_word, defBody s__law_word, defScope s__law_word, [], []⟩
theorem o__law_word {P : Program} {w : World} {K : PySem.W.Frag} {mg : Str → Option Value} {base : Heap} {f : Addr} {fd : FuncData} (h : Fx K w mg) (F : FnP K "_law_word" s__law_word f fd) (hm : mg "_law_word" = some (.ref f)) (o_letter_at : Own P w K mg base 3 "letter_at" ["setting", "row", "column"] F_letter_at) (o_with_sign : Own P w K mg base 5 "with_sign" ["board", "setting", "row", "column", "letter"] F_with_sign) : OwnAt P w K mg base 6 "_law_word" ["which", "board", "setting", "row", "column", "letter"] F__law_word_v1 f fd := by
  have sc : FnScope ["which", "board", "setting", "row", "column", "letter", "e"] ["which", "board", "setting", "row", "column", "letter"] (defScope s__law_word) := ⟨rfl, rfl, rfl, by decide +kernel, rfl, by decide +kernel, by decide +kernel⟩
  refine own_of (d := D__law_word) (N := ["which", "board", "setting", "row", "column", "letter", "e"]) (ds := b__law_word_v1) F hm sc (fun _ _ _ _ _ _ us hl => match us, hl with | [_, _, _, _, _, _], _ => rfl) fun cdv A outer s H E hr => ?_
  unfold b__law_word_v1 
  exact (lss_cons (ls_try rfl rfl sc.nd (L2N.takes_of rfl rfl rfl rfl) (fun V ps xe tk1 pa1 =>
  (lss_one (ls_if (lt_cmp (or_eq (hu65 hr)) od_eq (le_var (pv 0)) le_i)
  (lss_one (ls_expr (le_call o_letter_at (hr.mono (by decide)) rfl tk1 (la_cons (le_var (pv 2)) (la_cons (le_var (pv 3)) (la_cons (le_var (pv 4)) la_nil))))))
  (lss_one (ls_expr (le_call o_with_sign (hr.mono (by decide)) rfl tk1 (la_cons (le_var (pv 1)) (la_cons (le_var (pv 2)) (la_cons (le_var (pv 3)) (la_cons (le_var (pv 4)) (la_cons (le_var (pv 5)) la_nil)))))))))))
  (.as_ rfl (by decide) h.x_BadStep_3 rfl rfl (fun p C ob ps hpi hk hmC Tx hno hz hzn hd => (lss_one (ls_ret (le_ifE (lt_tru (le_isi (T := "str") (by decide) rfl h.f_isinstance rfl h.f_str (by decide +kernel) (le_pin hpi Tx (hno _ (by simp)) hz hd (pv 6)))) (le_pin hpi Tx (hno _ (by simp)) hz hd (pv 6)) le_s)))) (.one rfl (by decide) h.x_LightError_1 (fun k fs C a d ob ps hmC hzn hd => (lss_one (ls_ret le_s))) .nil)))
  (lss_one (ls_ret le_s)))
abbrev s__law_refused : Stmt := top 46
def D__law_refused : He.DefD := ⟨("_law_refused", none), "_law_refused", "_law_refused", defArgs s__law_refused, defBody s__law_refused, defScope s__law_refused, [], []⟩
theorem o__law_refused {P : Program} {w : World} {K : PySem.W.Frag} {mg : Str → Option Value} {base : Heap} {f : Addr} {fd : FuncData} (h : Fx K w mg) (F : FnP K "_law_refused" s__law_refused f fd) (hm : mg "_law_refused" = some (.ref f)) (o__law_setting : Own P w K mg base 2 "_law_setting" ["chest", "board"] F__law_setting_v1) (o__law_pull : Own P w K mg base 1 "_law_pull" ["chest", "many"] F__law_pull_v1) (o__law_from : Own P w K mg base 2 "_law_from" ["chest", "row"] F__law_from_v1) (o__law_word : Own P w K mg base 6 "_law_word" ["which", "board", "setting", "row", "column", "letter"] F__law_word_v1) : OwnAt P w K mg base 7 "_law_refused" ["chest", "board"] F__law_refused f fd := by
  have sc : FnScope ["chest", "board", "setting", "rows", "columns", "cell", "wrong", "letters", "lap", "away", "row", "column", "letter", "due"] ["chest", "board"] (defScope s__law_refused) := ⟨rfl, rfl, rfl, by decide +kernel, rfl, by decide +kernel, by decide +kernel⟩
  refine own_of (d := D__law_refused) (N := ["chest", "board", "setting", "rows", "columns", "cell", "wrong", "letters", "lap", "away", "row", "column", "letter", "due"]) (ds := b__law_refused) F hm sc (fun _ _ _ _ _ _ us hl => match us, hl with | [_, _], _ => rfl) fun cdv A outer s H E hr => ?_
  unfold b__law_refused L__law_refused_3 L__law_refused_2 L__law_refused_1 L__law_refused_0
  exact (lss_cons (ls_set (ps_set (i := 2) sc.nd rfl (by first | exact Or.inl rfl | exact Or.inr rfl) (le_call o__law_setting (hr.mono (by decide)) rfl (L2N.takes_of rfl rfl rfl rfl) (la_cons (le_var (pv 0)) (la_cons (le_var (pv 1)) la_nil)))))
  (lss_cons (ls_set (ps_set (i := 3) sc.nd rfl (by first | exact Or.inl rfl | exact Or.inr rfl) (le_len rfl h.f_len (la_cons (le_var (pv 1)) la_nil))))
  (lss_cons (ls_set (ps_set (i := 4) sc.nd rfl (by first | exact Or.inl rfl | exact Or.inr rfl) (le_len rfl h.f_len (la_cons (le_ix (hu65 hr) (le_var (pv 1)) le_i) la_nil))))
  (lss_cons (ls_set (ps_set (i := 5) sc.nd rfl (by first | exact Or.inl rfl | exact Or.inr rfl) (le_tup (la_cons (le_call o__law_pull (hr.mono (by decide)) rfl (L2N.takes_of rfl rfl rfl rfl) (la_cons (le_var (pv 0)) (la_cons (le_var (pv 3)) la_nil))) (la_cons (le_call o__law_pull (hr.mono (by decide)) rfl (L2N.takes_of rfl rfl rfl rfl) (la_cons (le_var (pv 0)) (la_cons (le_var (pv 4)) la_nil))) la_nil)))))
  (lss_cons (ls_set (ps_set (i := 6) sc.nd rfl (by first | exact Or.inl rfl | exact Or.inr rfl) (le_tup (la_cons (le_tup (la_cons (le_var (pv 3)) (la_cons (le_ix (hu65 hr) (le_var (pv 5)) le_i) la_nil))) (la_cons (le_tup (la_cons (le_ix (hu65 hr) (le_var (pv 5)) le_i) (la_cons (le_var (pv 4)) la_nil))) (la_cons (le_tup (la_cons (le_neg le_i) (la_cons (le_ix (hu65 hr) (le_var (pv 5)) le_i) la_nil))) (la_cons (le_tup (la_cons (le_ix (hu65 hr) (le_var (pv 5)) le_i) (la_cons (le_neg le_i) la_nil))) (la_cons (le_tup (la_cons le_s (la_cons (le_ix (hu65 hr) (le_var (pv 5)) le_i) la_nil))) (la_cons (le_tup (la_cons (le_ix (hu65 hr) (le_var (pv 5)) le_i) (la_cons le_n la_nil))) (la_cons (le_tup (la_cons le_b (la_cons (le_ix (hu65 hr) (le_var (pv 5)) le_i) la_nil))) (la_cons (le_tup (la_cons (le_ix (hu65 hr) (le_var (pv 5)) le_i) (la_cons le_b la_nil))) (la_cons (le_tup (la_cons (le_tup (la_cons le_i (la_cons le_i la_nil))) (la_cons le_i la_nil))) (la_cons (le_tup (la_cons (le_pow le_i le_i) (la_cons le_i la_nil))) (la_cons (le_tup (la_cons (le_var (pv 5)) (la_cons (le_var (pv 5)) la_nil))) la_nil))))))))))))))
  (lss_cons (ls_set (ps_set (i := 7) sc.nd rfl (by first | exact Or.inl rfl | exact Or.inr rfl) (le_tup (la_cons le_s (la_cons le_s (la_cons le_s (la_cons le_s (la_cons le_n (la_cons le_i (la_cons le_b (la_cons (le_tup (la_cons le_s la_nil)) (la_cons (le_lst (la_cons le_s la_nil)) (la_cons le_s (la_cons le_s (la_cons (le_pow le_i le_i) la_nil)))))))))))))))
  (lss_cons (ls_for (passes_of rfl) rfl (li_rng1 rfl h.f_range (la_cons le_i la_nil)) (lg_name (pg_name (i := 8) sc.nd rfl (by first | exact Or.inl rfl | exact Or.inr rfl)))
  (lss_cons (ls_set (ps_set (i := 9) sc.nd rfl (by first | exact Or.inl rfl | exact Or.inr rfl) (le_call o__law_from (hr.mono (by decide)) rfl (L2N.takes_of rfl rfl rfl rfl) (la_cons (le_var (pv 0)) (la_cons (le_var (pv 6)) la_nil)))))
  (lss_cons (ls_if (lt_w (lw_or (lt_cmp (or_ne (hu65 hr)) od_ne (le_call o__law_word (hr.mono (by decide)) rfl (L2N.takes_of rfl rfl rfl rfl) (la_cons le_i (la_cons (le_var (pv 1)) (la_cons (le_var (pv 2)) (la_cons (le_ix (hu65 hr) (le_var (pv 9)) le_i) (la_cons (le_ix (hu65 hr) (le_var (pv 9)) le_i) (la_cons le_s la_nil))))))) le_s) (lw_or1 (lt_cmp (or_ne (hu65 hr)) od_ne (le_call o__law_word (hr.mono (by decide)) rfl (L2N.takes_of rfl rfl rfl rfl) (la_cons le_i (la_cons (le_var (pv 1)) (la_cons (le_var (pv 2)) (la_cons (le_ix (hu65 hr) (le_var (pv 9)) le_i) (la_cons (le_ix (hu65 hr) (le_var (pv 9)) le_i) (la_cons (le_call o__law_from (hr.mono (by decide)) rfl (L2N.takes_of rfl rfl rfl rfl) (la_cons (le_var (pv 0)) (la_cons le_s la_nil))) la_nil))))))) le_s))))
  (lss_one (ls_ret le_b))
  lss_nil)
  (lss_cons (ls_if (lt_cmp (or_ne (hu65 hr)) od_ne (le_call o__law_word (hr.mono (by decide)) rfl (L2N.takes_of rfl rfl rfl rfl) (la_cons le_i (la_cons (le_var (pv 1)) (la_cons (le_var (pv 2)) (la_cons (le_ix (hu65 hr) (le_var (pv 9)) le_i) (la_cons (le_ix (hu65 hr) (le_var (pv 9)) le_i) (la_cons (le_call o__law_from (hr.mono (by decide)) rfl (L2N.takes_of rfl rfl rfl rfl) (la_cons (le_var (pv 0)) (la_cons (le_var (pv 7)) la_nil))) la_nil))))))) le_s)
  (lss_one (ls_ret le_b))
  lss_nil)
  (lss_one (ls_if (lt_cmp (or_ne (hu65 hr)) od_ne (le_call o__law_word (hr.mono (by decide)) rfl (L2N.takes_of rfl rfl rfl rfl) (la_cons le_i (la_cons (le_var (pv 1)) (la_cons (le_var (pv 2)) (la_cons (le_ix (hu65 hr) (le_var (pv 5)) le_i) (la_cons (le_ix (hu65 hr) (le_var (pv 5)) le_i) (la_cons (le_call o__law_from (hr.mono (by decide)) rfl (L2N.takes_of rfl rfl rfl rfl) (la_cons (le_var (pv 0)) (la_cons (le_var (pv 7)) la_nil))) la_nil))))))) le_s)
  (lss_one (ls_ret le_b))
  lss_nil))))))
  (lss_cons (ls_for (passes_of rfl) rfl (li_rng1 rfl h.f_range (la_cons (le_var (pv 3)) la_nil)) (lg_name (pg_name (i := 10) sc.nd rfl (by first | exact Or.inl rfl | exact Or.inr rfl)))
  (lss_one (ls_for (passes_of rfl) rfl (li_rng1 rfl h.f_range (la_cons (le_var (pv 4)) la_nil)) (lg_name (pg_name (i := 11) sc.nd rfl (by first | exact Or.inl rfl | exact Or.inr rfl)))
  (lss_one (ls_for (passes_of rfl) rfl (li_seq le_s) (lg_name (pg_name (i := 12) sc.nd rfl (by first | exact Or.inl rfl | exact Or.inr rfl)))
  (lss_cons (ls_set (ps_set (i := 13) sc.nd rfl (by first | exact Or.inl rfl | exact Or.inr rfl) (le_ifE (lt_cmp (or_eq (hu65 hr)) od_eq (le_ix (hu65 hr) (le_ix (hu65 hr) (le_var (pv 1)) (le_var (pv 10))) (le_var (pv 11))) le_s) le_s (le_ifE (lt_cmp (or_in (hu65 hr)) od_in (le_var (pv 12)) (le_ix (hu65 hr) (le_ix (hu65 hr) (le_var (pv 1)) (le_var (pv 10))) (le_var (pv 11)))) le_s le_s))))
  (lss_one (ls_if (lt_w (lw_and (lt_cmp (or_eq (hu65 hr)) od_eq (le_mul (le_fdiv (le_add (le_add (le_var (pv 10)) (le_var (pv 11))) (le_var (pv 3))) le_i) le_i) (le_add (le_add (le_var (pv 10)) (le_var (pv 11))) (le_var (pv 3)))) (lw_and1 (lt_cmp (or_ne (hu65 hr)) od_ne (le_call o__law_word (hr.mono (by decide)) rfl (L2N.takes_of rfl rfl rfl rfl) (la_cons le_i (la_cons (le_var (pv 1)) (la_cons (le_var (pv 2)) (la_cons (le_var (pv 10)) (la_cons (le_var (pv 11)) (la_cons (le_var (pv 12)) la_nil))))))) (le_var (pv 13))))))
  (lss_one (ls_ret le_b))
  lss_nil))))))))
  (lss_one (ls_ret le_b))))))))))
abbrev s__law_bent : Stmt := top 41
def D__law_bent : He.DefD := ⟨("_law_bent", none), "_law_bent", "_law_bent", defArgs s__law_bent, defBody s__law_bent, defScope s__law_bent, [], []⟩
theorem o__law_bent {P : Program} {w : World} {K : PySem.W.Frag} {mg : Str → Option Value} {base : Heap} {f : Addr} {fd : FuncData} (h : Fx K w mg) (F : FnP K "_law_bent" s__law_bent f fd) (hm : mg "_law_bent" = some (.ref f)) (o__law_pull : Own P w K mg base 1 "_law_pull" ["chest", "many"] F__law_pull_v1) (o__law_from : Own P w K mg base 2 "_law_from" ["chest", "row"] F__law_from_v1) : OwnAt P w K mg base 3 "_law_bent" ["chest", "setting"] F__law_bent f fd := by
  have sc : FnScope ["chest", "setting", "at", "word", "place", "sign", "rows", "way"] ["chest", "setting"] (defScope s__law_bent) := ⟨rfl, rfl, rfl, by decide +kernel, rfl, by decide +kernel, by decide +kernel⟩
  refine own_of (d := D__law_bent) (N := ["chest", "setting", "at", "word", "place", "sign", "rows", "way"]) (ds := b__law_bent) F hm sc (fun _ _ _ _ _ _ us hl => match us, hl with | [_, _], _ => rfl) fun cdv A outer s H E hr => ?_
  unfold b__law_bent 
  exact (lss_cons (ls_set (ps_set (i := 2) sc.nd rfl (by first | exact Or.inl rfl | exact Or.inr rfl) (le_call o__law_pull (hr.mono (by decide)) rfl (L2N.takes_of rfl rfl rfl rfl) (la_cons (le_var (pv 0)) (la_cons (le_len rfl h.f_len (la_cons (le_var (pv 1)) la_nil)) la_nil)))))
  (lss_cons (ls_if (lt_cmp (or_eq (hu65 hr)) od_eq (le_call o__law_pull (hr.mono (by decide)) rfl (L2N.takes_of rfl rfl rfl rfl) (la_cons (le_var (pv 0)) (la_cons le_i la_nil))) le_i)
  (lss_one (ls_set (ps_set (i := 2) sc.nd rfl (by first | exact Or.inl rfl | exact Or.inr rfl) (le_sub (le_len rfl h.f_len (la_cons (le_var (pv 1)) la_nil)) le_i))))
  lss_nil)
  (lss_cons (ls_set (ps_set (i := 3) sc.nd rfl (by first | exact Or.inl rfl | exact Or.inr rfl) (le_ix (hu65 hr) (le_var (pv 1)) (le_var (pv 2)))))
  (lss_cons (ls_set (ps_set (i := 4) sc.nd rfl (by first | exact Or.inl rfl | exact Or.inr rfl) (le_call o__law_pull (hr.mono (by decide)) rfl (L2N.takes_of rfl rfl rfl rfl) (la_cons (le_var (pv 0)) (la_cons (le_len rfl h.f_len (la_cons (le_var (pv 3)) la_nil)) la_nil)))))
  (lss_cons (ls_set (ps_set (i := 5) sc.nd rfl (by first | exact Or.inl rfl | exact Or.inr rfl) (le_call o__law_from (hr.mono (by decide)) rfl (L2N.takes_of rfl rfl rfl rfl) (la_cons (le_var (pv 0)) (la_cons (le_tup (la_cons le_s (la_cons le_s (la_cons le_s (la_cons le_s (la_cons le_s (la_cons le_s (la_cons le_s (la_cons le_s la_nil))))))))) la_nil)))))
  (lss_cons (ls_set (ps_set (i := 6) sc.nd rfl (by first | exact Or.inl rfl | exact Or.inr rfl) (le_tup (la_cons (le_add (le_add (le_sl (le_var (pv 3)) lo_none (lo_some (le_var (pv 4)))) (le_var (pv 5))) (le_sl (le_var (pv 3)) (lo_some (le_add (le_var (pv 4)) le_i)) lo_none)) (la_cons (le_add (le_var (pv 3)) (le_var (pv 5))) (la_cons (le_add (le_sl (le_var (pv 3)) lo_none (lo_some (le_var (pv 4)))) (le_sl (le_var (pv 3)) (lo_some (le_add (le_var (pv 4)) le_i)) lo_none)) (la_cons le_s (la_cons le_n (la_cons le_b (la_cons le_i (la_cons (le_tup (la_cons (le_var (pv 3)) la_nil)) (la_cons (le_list rfl rfl h.f_list (la_cons (le_var (pv 3)) la_nil)) (la_cons (le_tuple rfl rfl h.f_tuple (la_cons (le_var (pv 3)) la_nil)) (la_cons (le_pow le_i le_i) la_nil))))))))))))))
  (lss_cons (ls_set (ps_set (i := 7) sc.nd rfl (by first | exact Or.inl rfl | exact Or.inr rfl) (le_call o__law_pull (hr.mono (by decide)) rfl (L2N.takes_of rfl rfl rfl rfl) (la_cons (le_var (pv 0)) (la_cons le_i la_nil)))))
  (lss_cons (ls_if (lt_cmp or_lt od_lt (le_var (pv 7)) le_i)
  (lss_one (ls_ret (le_add (le_add (le_sl (le_var (pv 1)) lo_none (lo_some (le_var (pv 2)))) (le_tup (la_cons (le_ix (hu65 hr) (le_var (pv 6)) le_i) la_nil))) (le_sl (le_var (pv 1)) (lo_some (le_add (le_var (pv 2)) le_i)) lo_none))))
  lss_nil)
  (lss_cons (ls_if (lt_cmp or_lt od_lt (le_var (pv 7)) le_i)
  (lss_one (ls_ret (le_add (le_add (le_sl (le_var (pv 1)) lo_none (lo_some (le_var (pv 2)))) (le_tup (la_cons (le_ix (hu65 hr) (le_var (pv 6)) (le_sub (le_var (pv 7)) le_i)) la_nil))) (le_sl (le_var (pv 1)) (lo_some (le_add (le_var (pv 2)) le_i)) lo_none))))
  lss_nil)
  (lss_one (ls_ret (le_ix (hu65 hr) (le_tup (la_cons (le_list rfl rfl h.f_list (la_cons (le_var (pv 1)) la_nil)) (la_cons (le_sl (le_var (pv 1)) (lo_some le_i) lo_none) (la_cons (le_add (le_var (pv 1)) (le_sl (le_var (pv 1)) lo_none (lo_some le_i))) (la_cons (le_tup (la_cons (le_var (pv 1)) la_nil)) (la_cons (le_rev (le_var (pv 1))) (la_cons (le_join le_s (la_cons (le_var (pv 1)) la_nil) ⟨rfl, rfl, rfl, rfl, rfl⟩) la_nil))))))) (le_sub (le_var (pv 7)) le_i)))))))))))))
abbrev s__law_row : Stmt := top 43
def D__law_row : He.DefD := ⟨("_law_row", none), "_law_row", "_law_row", defArgs s__law_row, defBody s__law_row, defScope s__law_row, [], []⟩
theorem o__law_row {P : Program} {w : World} {K : PySem.W.Frag} {mg : Str → Option Value} {base : Heap} {f : Addr} {fd : FuncData} (h : Fx K w mg) (F : FnP K "_law_row" s__law_row f fd) (hm : mg "_law_row" = some (.ref f)) (o__law_pull : Own P w K mg base 1 "_law_pull" ["chest", "many"] F__law_pull_v1) (o__law_from : Own P w K mg base 2 "_law_from" ["chest", "row"] F__law_from_v1) : OwnAt P w K mg base 3 "_law_row" ["chest", "word"] F__law_row f fd := by
  have sc : FnScope ["chest", "word", "place"] ["chest", "word"] (defScope s__law_row) := ⟨rfl, rfl, rfl, by decide +kernel, rfl, by decide +kernel, by decide +kernel⟩
  refine own_of (d := D__law_row) (N := ["chest", "word", "place"]) (ds := b__law_row) F hm sc (fun _ _ _ _ _ _ us hl => match us, hl with | [_, _], _ => rfl) fun cdv A outer s H E hr => ?_
  unfold b__law_row 
  exact (lss_cons (ls_set (ps_set (i := 2) sc.nd rfl (by first | exact Or.inl rfl | exact Or.inr rfl) (le_call o__law_pull (hr.mono (by decide)) rfl (L2N.takes_of rfl rfl rfl rfl) (la_cons (le_var (pv 0)) (la_cons (le_len rfl h.f_len (la_cons (le_var (pv 1)) la_nil)) la_nil)))))
  (lss_one (ls_ret (le_ix (hu65 hr) (le_tup (la_cons (le_add (le_add (le_sl (le_var (pv 1)) lo_none (lo_some (le_var (pv 2)))) (le_call o__law_from (hr.mono (by decide)) rfl (L2N.takes_of rfl rfl rfl rfl) (la_cons (le_var (pv 0)) (la_cons (le_tup (la_cons le_s (la_cons le_s (la_cons le_s (la_cons le_s la_nil))))) la_nil)))) (le_sl (le_var (pv 1)) (lo_some (le_add (le_var (pv 2)) le_i)) lo_none)) (la_cons (le_add (le_var (pv 1)) le_s) la_nil))) (le_fdiv (le_call o__law_pull (hr.mono (by decide)) rfl (L2N.takes_of rfl rfl rfl rfl) (la_cons (le_var (pv 0)) (la_cons le_i la_nil))) le_i)))))
abbrev s__law_some : Stmt := top 42
def D__law_some : He.DefD := ⟨("_law_some", none), "_law_some", "_law_some", defArgs s__law_some, defBody s__law_some, defScope s__law_some, [], []⟩
theorem o__law_some {P : Program} {w : World} {K : PySem.W.Frag} {mg : Str → Option Value} {base : Heap} {f : Addr} {fd : FuncData} (h : Fx K w mg) (F : FnP K "_law_some" s__law_some f fd) (hm : mg "_law_some" = some (.ref f)) (o__law_setting : Own P w K mg base 2 "_law_setting" ["chest", "board"] F__law_setting_v1) (o__law_judged : Own P w K mg base 6 "_law_judged" ["board", "thing"] F__law_judged) (o__law_same : Own P w K mg base 2 "_law_same" ["told", "due"] F__law_same_v1) (o_is_setting : Own P w K mg base 5 "is_setting" ["board", "thing"] F_is_setting) (o__law_bent : Own P w K mg base 3 "_law_bent" ["chest", "setting"] F__law_bent) (o__law_pull : Own P w K mg base 1 "_law_pull" ["chest", "many"] F__law_pull_v1) (o__law_row : Own P w K mg base 3 "_law_row" ["chest", "word"] F__law_row) : OwnAt P w K mg base 7 "_law_some" ["chest", "board", "laps"] F__law_some f fd := by
  have sc : FnScope ["chest", "board", "laps", "setting", "thing", "lap", "bent", "again", "at"] ["chest", "board", "laps"] (defScope s__law_some) := ⟨rfl, rfl, rfl, by decide +kernel, rfl, by decide +kernel, by decide +kernel⟩
  refine own_of (d := D__law_some) (N := ["chest", "board", "laps", "setting", "thing", "lap", "bent", "again", "at"]) (ds := b__law_some) F hm sc (fun _ _ _ _ _ _ us hl => match us, hl with | [_, _, _], _ => rfl) fun cdv A outer s H E hr => ?_
  unfold b__law_some L__law_some_1 L__law_some_0
  exact (lss_cons (ls_set (ps_set (i := 3) sc.nd rfl (by first | exact Or.inl rfl | exact Or.inr rfl) (le_call o__law_setting (hr.mono (by decide)) rfl (L2N.takes_of rfl rfl rfl rfl) (la_cons (le_var (pv 0)) (la_cons (le_var (pv 1)) la_nil)))))
  (lss_cons (ls_if (lt_w (lw_or (lt_not (lt_tru (le_call o__law_judged (hr.mono (by decide)) rfl (L2N.takes_of rfl rfl rfl rfl) (la_cons (le_var (pv 1)) (la_cons (le_var (pv 3)) la_nil))))) (lw_or1 (lt_not (lt_tru (le_call o__law_same (hr.mono (by decide)) rfl (L2N.takes_of rfl rfl rfl rfl) (la_cons (le_call o_is_setting (hr.mono (by decide)) rfl (L2N.takes_of rfl rfl rfl rfl) (la_cons (le_var (pv 1)) (la_cons (le_var (pv 3)) la_nil))) (la_cons le_b la_nil))))))))
  (lss_one (ls_ret le_b))
  lss_nil)
  (lss_cons (ls_for (passes_of rfl) rfl (li_seq (le_tup (la_cons (le_list rfl rfl h.f_list (la_cons (le_var (pv 3)) la_nil)) (la_cons le_n (la_cons (le_tup la_nil) (la_cons le_s (la_cons le_i (la_cons le_b (la_cons (le_tup (la_cons (le_tup la_nil) la_nil)) (la_cons (le_var (pv 1)) la_nil)))))))))) (lg_name (pg_name (i := 4) sc.nd rfl (by first | exact Or.inl rfl | exact Or.inr rfl)))
  (lss_one (ls_if (lt_not (lt_tru (le_call o__law_judged (hr.mono (by decide)) rfl (L2N.takes_of rfl rfl rfl rfl) (la_cons (le_var (pv 1)) (la_cons (le_var (pv 4)) la_nil)))))
  (lss_one (ls_ret le_b))
  lss_nil)))
  (lss_cons (ls_for (passes_of rfl) rfl (li_rng1 rfl h.f_range (la_cons (le_var (pv 2)) la_nil)) (lg_name (pg_name (i := 5) sc.nd rfl (by first | exact Or.inl rfl | exact Or.inr rfl)))
  (lss_cons (ls_set (ps_set (i := 6) sc.nd rfl (by first | exact Or.inl rfl | exact Or.inr rfl) (le_call o__law_bent (hr.mono (by decide)) rfl (L2N.takes_of rfl rfl rfl rfl) (la_cons (le_var (pv 0)) (la_cons (le_var (pv 3)) la_nil)))))
  (lss_cons (ls_if (lt_not (lt_tru (le_call o__law_judged (hr.mono (by decide)) rfl (L2N.takes_of rfl rfl rfl rfl) (la_cons (le_var (pv 1)) (la_cons (le_var (pv 6)) la_nil)))))
  (lss_one (ls_ret le_b))
  lss_nil)
  (lss_cons (ls_set (ps_set (i := 7) sc.nd rfl (by first | exact Or.inl rfl | exact Or.inr rfl) (le_call o__law_setting (hr.mono (by decide)) rfl (L2N.takes_of rfl rfl rfl rfl) (la_cons (le_var (pv 0)) (la_cons (le_var (pv 1)) la_nil)))))
  (lss_cons (ls_set (ps_set (i := 8) sc.nd rfl (by first | exact Or.inl rfl | exact Or.inr rfl) (le_call o__law_pull (hr.mono (by decide)) rfl (L2N.takes_of rfl rfl rfl rfl) (la_cons (le_var (pv 0)) (la_cons (le_len rfl h.f_len (la_cons (le_var (pv 3)) la_nil)) la_nil)))))
  (lss_one (ls_if (lt_w (lw_and (lt_tru (le_isi (T := "tuple") (by decide) rfl h.f_isinstance rfl h.f_tuple (by decide +kernel) (le_var (pv 6)))) (lw_and (lt_cmp (or_eq (hu65 hr)) od_eq (le_len rfl h.f_len (la_cons (le_var (pv 6)) la_nil)) (le_len rfl h.f_len (la_cons (le_var (pv 3)) la_nil))) (lw_and1 (lt_not (lt_tru (le_call o__law_judged (hr.mono (by decide)) rfl (L2N.takes_of rfl rfl rfl rfl) (la_cons (le_var (pv 1)) (la_cons (le_add (le_add (le_sl (le_var (pv 6)) lo_none (lo_some (le_var (pv 8)))) (le_tup (la_cons (le_call o__law_row (hr.mono (by decide)) rfl (L2N.takes_of rfl rfl rfl rfl) (la_cons (le_var (pv 0)) (la_cons (le_ix (hu65 hr) (le_var (pv 7)) (le_var (pv 8))) la_nil))) la_nil))) (le_sl (le_var (pv 6)) (lo_some (le_add (le_var (pv 8)) le_i)) lo_none)) la_nil)))))))))
  (lss_one (ls_ret le_b))
  lss_nil)))))))
  (lss_one (ls_ret le_b))))))
abbrev s_changed_cells : Stmt := top 29
def D_changed_cells : He.DefD := ⟨("changed_cells", none), "changed_cells", "changed_cells", defArgs s_changed_cells, defBody s_changed_cells, defScope s_changed_cells, [], []⟩
theorem o_changed_cells {P : Program} {w : World} {K : PySem.W.Frag} {mg : Str → Option Value} {base : Heap} {f : Addr} {fd : FuncData} (h : Fx K w mg) (F : FnP K "changed_cells" s_changed_cells f fd) (hm : mg "changed_cells" = some (.ref f)) : OwnAt P w K mg base 1 "changed_cells" ["one", "other"] F_changed_cells f fd := by
  have sc : FnScope ["one", "other", "found", "row", "column"] ["one", "other"] (defScope s_changed_cells) := ⟨rfl, rfl, rfl, by decide +kernel, rfl, by decide +kernel, by decide +kernel⟩
  refine own_of (d := D_changed_cells) (N := ["one", "other", "found", "row", "column"]) (ds := b_changed_cells) F hm sc (fun _ _ _ _ _ _ us hl => match us, hl with | [_, _], _ => rfl) fun cdv A outer s H E hr => ?_
  unfold b_changed_cells L_changed_cells_1 L_changed_cells_0
  exact (lss_cons (ls_setM (ps_set (i := 2) sc.nd rfl (by first | exact Or.inl rfl | exact Or.inr rfl) (le_lst la_nil)))
  (lss_cons (ls_for (passes_of rfl) rfl (li_rng1 rfl h.f_range (la_cons (le_len rfl h.f_len (la_cons (le_var (pv 0)) la_nil)) la_nil)) (lg_name (pg_name (i := 3) sc.nd rfl (by first | exact Or.inl rfl | exact Or.inr rfl)))
  (lss_one (ls_for (passes_of rfl) rfl (li_rng1 rfl h.f_range (la_cons (le_len rfl h.f_len (la_cons (le_ix (hu65 hr) (le_var (pv 0)) (le_var (pv 3))) la_nil)) la_nil)) (lg_name (pg_name (i := 4) sc.nd rfl (by first | exact Or.inl rfl | exact Or.inr rfl)))
  (lss_one (ls_if (lt_cmp (or_ne (hu65 hr)) od_ne (le_ix (hu65 hr) (le_ix (hu65 hr) (le_var (pv 0)) (le_var (pv 3))) (le_var (pv 4))) (le_ix (hu65 hr) (le_ix (hu65 hr) (le_var (pv 1)) (le_var (pv 3))) (le_var (pv 4))))
  (lss_one (ls_expr (le_append (le_var (pv 2)) (la_cons (le_tup (la_cons (le_var (pv 3)) (la_cons (le_var (pv 4)) la_nil))) la_nil) ⟨rfl, rfl, rfl, rfl, rfl⟩)))
  lss_nil)))))
  (lss_one (ls_ret (le_tuple rfl rfl h.f_tuple (la_cons (le_var (pv 2)) la_nil))))))
abbrev s_first_setting : Stmt := top 24
def D_first_setting : He.DefD := ⟨("first_setting", none), "first_setting", "first_setting", defArgs s_first_setting, defBody s_first_setting, defScope s_first_setting, [], []⟩
theorem o_first_setting {P : Program} {w : World} {K : PySem.W.Frag} {mg : Str → Option Value} {base : Heap} {f : Addr} {fd : FuncData} (h : Fx K w mg) (F : FnP K "first_setting" s_first_setting f fd) (hm : mg "first_setting" = some (.ref f)) : OwnAt P w K mg base 1 "first_setting" ["board"] F_first_setting f fd := by
  have sc : FnScope ["board", "row", "kind"] ["board"] (defScope s_first_setting) := ⟨rfl, rfl, rfl, by decide +kernel, rfl, by decide +kernel, by decide +kernel⟩
  refine own_of (d := D_first_setting) (N := ["board", "row", "kind"]) (ds := b_first_setting) F hm sc (fun _ _ _ _ _ _ us hl => match us, hl with | [_], _ => rfl) fun cdv A outer s H E hr => ?_
  unfold b_first_setting C_first_setting_1 C_first_setting_0
  exact (lss_one (ls_ret (le_tuple rfl rfl h.f_tuple (la_cons (le_lc rfl sc.nd (li_seq (le_var (pv 0))) (own := [("row", 1)]) (blk_of (by kernel_rfl)) (fun _ _ _ _ _ => (lc_name (pg_name (i := 1) sc.nd rfl (by first | exact Or.inl rfl | exact Or.inr rfl)))) (fun _ _ _ _ _ => lts_nil) (fun _ _ _ _ _ => (le_join le_s (la_cons (le_lc rfl sc.nd (li_seq (le_var (pv 1))) (own := [("kind", 2)]) (blk_of (by kernel_rfl)) (fun _ _ _ _ _ => (lc_name (pg_name (i := 2) sc.nd rfl (by first | exact Or.inl rfl | exact Or.inr rfl)))) (fun _ _ _ _ _ => lts_nil) (fun _ _ _ _ _ => (le_ifE (lt_cmp (or_eq (hu65 hr)) od_eq (le_var (pv 2)) le_s) le_s (le_ix (hu65 hr) (le_var (pv 2)) le_i)))) la_nil) ⟨rfl, rfl, rfl, rfl, rfl⟩))) la_nil))))
abbrev s_last_setting : Stmt := top 25
def D_last_setting : He.DefD := ⟨("last_setting", none), "last_setting", "last_setting", defArgs s_last_setting, defBody s_last_setting, defScope s_last_setting, [], []⟩
theorem o_last_setting {P : Program} {w : World} {K : PySem.W.Frag} {mg : Str → Option Value} {base : Heap} {f : Addr} {fd : FuncData} (h : Fx K w mg) (F : FnP K "last_setting" s_last_setting f fd) (hm : mg "last_setting" = some (.ref f)) : OwnAt P w K mg base 1 "last_setting" ["board"] F_last_setting f fd := by
  have sc : FnScope ["board", "row", "kind"] ["board"] (defScope s_last_setting) := ⟨rfl, rfl, rfl, by decide +kernel, rfl, by decide +kernel, by decide +kernel⟩
  refine own_of (d := D_last_setting) (N := ["board", "row", "kind"]) (ds := b_last_setting) F hm sc (fun _ _ _ _ _ _ us hl => match us, hl with | [_], _ => rfl) fun cdv A outer s H E hr => ?_
  unfold b_last_setting C_last_setting_1 C_last_setting_0
  exact (lss_one (ls_ret (le_tuple rfl rfl h.f_tuple (la_cons (le_lc rfl sc.nd (li_seq (le_var (pv 0))) (own := [("row", 1)]) (blk_of (by kernel_rfl)) (fun _ _ _ _ _ => (lc_name (pg_name (i := 1) sc.nd rfl (by first | exact Or.inl rfl | exact Or.inr rfl)))) (fun _ _ _ _ _ => lts_nil) (fun _ _ _ _ _ => (le_join le_s (la_cons (le_lc rfl sc.nd (li_seq (le_var (pv 1))) (own := [("kind", 2)]) (blk_of (by kernel_rfl)) (fun _ _ _ _ _ => (lc_name (pg_name (i := 2) sc.nd rfl (by first | exact Or.inl rfl | exact Or.inr rfl)))) (fun _ _ _ _ _ => lts_nil) (fun _ _ _ _ _ => (le_ifE (lt_cmp (or_eq (hu65 hr)) od_eq (le_var (pv 2)) le_s) le_s (le_ix (hu65 hr) (le_var (pv 2)) (le_neg le_i))))) la_nil) ⟨rfl, rfl, rfl, rfl, rfl⟩))) la_nil))))
abbrev s__law_edges : Stmt := top 44
def D__law_edges : He.DefD := ⟨("_law_edges", none), "_law_edges", "_law_edges", defArgs s__law_edges, defBody s__law_edges, defScope s__law_edges, [], []⟩
theorem o__law_edges {P : Program} {w : World} {K : PySem.W.Frag} {mg : Str → Option Value} {base : Heap} {f : Addr} {fd : FuncData} (h : Fx K w mg) (F : FnP K "_law_edges" s__law_edges f fd) (hm : mg "_law_edges" = some (.ref f)) (o__law_same : Own P w K mg base 2 "_law_same" ["told", "due"] F__law_same_v1) (o_first_setting : Own P w K mg base 1 "first_setting" ["board"] F_first_setting) (o_last_setting : Own P w K mg base 1 "last_setting" ["board"] F_last_setting) (o__law_setting : Own P w K mg base 2 "_law_setting" ["chest", "board"] F__law_setting_v1) (o_changed_cells : Own P w K mg base 1 "changed_cells" ["one", "other"] F_changed_cells) (o__law_pull : Own P w K mg base 1 "_law_pull" ["chest", "many"] F__law_pull_v1) (o_letter_at : Own P w K mg base 3 "letter_at" ["setting", "row", "column"] F_letter_at) (o__law_from : Own P w K mg base 2 "_law_from" ["chest", "row"] F__law_from_v1) (o_with_sign : Own P w K mg base 5 "with_sign" ["board", "setting", "row", "column", "letter"] F_with_sign) : OwnAt P w K mg base 6 "_law_edges" ["chest", "board"] F__law_edges f fd := by
  have sc : FnScope ["chest", "board", "first", "last", "one", "other", "due", "row", "column", "cells", "letter", "made", "kind"] ["chest", "board"] (defScope s__law_edges) := ⟨rfl, rfl, rfl, by decide +kernel, rfl, by decide +kernel, by decide +kernel⟩
  refine own_of (d := D__law_edges) (N := ["chest", "board", "first", "last", "one", "other", "due", "row", "column", "cells", "letter", "made", "kind"]) (ds := b__law_edges) F hm sc (fun _ _ _ _ _ _ us hl => match us, hl with | [_, _], _ => rfl) fun cdv A outer s H E hr => ?_
  unfold b__law_edges L__law_edges_7 C__law_edges_6 L__law_edges_5 C__law_edges_4 C__law_edges_3 C__law_edges_2 C__law_edges_1 C__law_edges_0
  exact (lss_cons (ls_set (ps_set (i := 2) sc.nd rfl (by first | exact Or.inl rfl | exact Or.inr rfl) (le_tuple rfl rfl h.f_tuple (la_cons (le_lc rfl sc.nd (li_seq (le_var (pv 1))) (own := [("row", 7)]) (blk_of (by kernel_rfl)) (fun _ _ _ _ _ => (lc_name (pg_name (i := 7) sc.nd rfl (by first | exact Or.inl rfl | exact Or.inr rfl)))) (fun _ _ _ _ _ => lts_nil) (fun _ _ _ _ _ => (le_join le_s (la_cons (le_lc rfl sc.nd (li_seq (le_var (pv 7))) (own := [("kind", 12)]) (blk_of (by kernel_rfl)) (fun _ _ _ _ _ => (lc_name (pg_name (i := 12) sc.nd rfl (by first | exact Or.inl rfl | exact Or.inr rfl)))) (fun _ _ _ _ _ => lts_nil) (fun _ _ _ _ _ => (le_ifE (lt_cmp (or_ne (hu65 hr)) od_ne (le_var (pv 12)) le_s) (le_sl (le_var (pv 12)) lo_none (lo_some le_i)) le_s))) la_nil) ⟨rfl, rfl, rfl, rfl, rfl⟩))) la_nil))))
  (lss_cons (ls_set (ps_set (i := 3) sc.nd rfl (by first | exact Or.inl rfl | exact Or.inr rfl) (le_tuple rfl rfl h.f_tuple (la_cons (le_lc rfl sc.nd (li_seq (le_var (pv 1))) (own := [("row", 7)]) (blk_of (by kernel_rfl)) (fun _ _ _ _ _ => (lc_name (pg_name (i := 7) sc.nd rfl (by first | exact Or.inl rfl | exact Or.inr rfl)))) (fun _ _ _ _ _ => lts_nil) (fun _ _ _ _ _ => (le_join le_s (la_cons (le_lc rfl sc.nd (li_seq (le_var (pv 7))) (own := [("kind", 12)]) (blk_of (by kernel_rfl)) (fun _ _ _ _ _ => (lc_name (pg_name (i := 12) sc.nd rfl (by first | exact Or.inl rfl | exact Or.inr rfl)))) (fun _ _ _ _ _ => lts_nil) (fun _ _ _ _ _ => (le_ifE (lt_cmp (or_ne (hu65 hr)) od_ne (le_var (pv 12)) le_s) (le_sl (le_var (pv 12)) (lo_some (le_neg le_i)) lo_none) le_s))) la_nil) ⟨rfl, rfl, rfl, rfl, rfl⟩))) la_nil))))
  (lss_cons (ls_if (lt_not (lt_tru (le_call o__law_same (hr.mono (by decide)) rfl (L2N.takes_of rfl rfl rfl rfl) (la_cons (le_tup (la_cons (le_call o_first_setting (hr.mono (by decide)) rfl (L2N.takes_of rfl rfl rfl rfl) (la_cons (le_var (pv 1)) la_nil)) (la_cons (le_call o_last_setting (hr.mono (by decide)) rfl (L2N.takes_of rfl rfl rfl rfl) (la_cons (le_var (pv 1)) la_nil)) la_nil))) (la_cons (le_tup (la_cons (le_var (pv 2)) (la_cons (le_var (pv 3)) la_nil))) la_nil)))))
  (lss_one (ls_ret le_b))
  lss_nil)
  (lss_cons (ls_set (ps_set (i := 4) sc.nd rfl (by first | exact Or.inl rfl | exact Or.inr rfl) (le_call o__law_setting (hr.mono (by decide)) rfl (L2N.takes_of rfl rfl rfl rfl) (la_cons (le_var (pv 0)) (la_cons (le_var (pv 1)) la_nil)))))
  (lss_cons (ls_set (ps_set (i := 5) sc.nd rfl (by first | exact Or.inl rfl | exact Or.inr rfl) (le_call o__law_setting (hr.mono (by decide)) rfl (L2N.takes_of rfl rfl rfl rfl) (la_cons (le_var (pv 0)) (la_cons (le_var (pv 1)) la_nil)))))
  (lss_cons (ls_setM (ps_set (i := 6) sc.nd rfl (by first | exact Or.inl rfl | exact Or.inr rfl) (le_lst la_nil)))
  (lss_cons (ls_for (passes_of rfl) rfl (li_rng1 rfl h.f_range (la_cons (le_len rfl h.f_len (la_cons (le_var (pv 1)) la_nil)) la_nil)) (lg_name (pg_name (i := 7) sc.nd rfl (by first | exact Or.inl rfl | exact Or.inr rfl)))
  (lss_one (ls_expr (le_extend (le_var (pv 6)) (la_cons (le_lc rfl sc.nd (li_rng1 rfl h.f_range (la_cons (le_len rfl h.f_len (la_cons (le_ix (hu65 hr) (le_var (pv 1)) le_i) la_nil)) la_nil)) (own := [("column", 8)]) (blk_of (by kernel_rfl)) (fun _ _ _ _ _ => (lc_name (pg_name (i := 8) sc.nd rfl (by first | exact Or.inl rfl | exact Or.inr rfl)))) (fun _ _ _ _ _ => (lts_one (lt_cmp (or_ne (hu65 hr)) od_ne (le_ix (hu65 hr) (le_ix (hu65 hr) (le_var (pv 4)) (le_var (pv 7))) (le_var (pv 8))) (le_ix (hu65 hr) (le_ix (hu65 hr) (le_var (pv 5)) (le_var (pv 7))) (le_var (pv 8)))))) (fun _ _ _ _ _ => (le_tup (la_cons (le_var (pv 7)) (la_cons (le_var (pv 8)) la_nil))))) la_nil) ⟨rfl, rfl, rfl, rfl, rfl⟩))))
  (lss_cons (ls_if (lt_w (lw_or (lt_not (lt_tru (le_call o__law_same (hr.mono (by decide)) rfl (L2N.takes_of rfl rfl rfl rfl) (la_cons (le_call o_changed_cells (hr.mono (by decide)) rfl (L2N.takes_of rfl rfl rfl rfl) (la_cons (le_var (pv 4)) (la_cons (le_var (pv 5)) la_nil))) (la_cons (le_tuple rfl rfl h.f_tuple (la_cons (le_var (pv 6)) la_nil)) la_nil))))) (lw_or1 (lt_not (lt_tru (le_call o__law_same (hr.mono (by decide)) rfl (L2N.takes_of rfl rfl rfl rfl) (la_cons (le_call o_changed_cells (hr.mono (by decide)) rfl (L2N.takes_of rfl rfl rfl rfl) (la_cons (le_var (pv 5)) (la_cons (le_var (pv 5)) la_nil))) (la_cons (le_tup la_nil) la_nil))))))))
  (lss_one (ls_ret le_b))
  lss_nil)
  (lss_cons (ls_set (ps_set (i := 7) sc.nd rfl (by first | exact Or.inl rfl | exact Or.inr rfl) (le_call o__law_pull (hr.mono (by decide)) rfl (L2N.takes_of rfl rfl rfl rfl) (la_cons (le_var (pv 0)) (la_cons (le_len rfl h.f_len (la_cons (le_var (pv 1)) la_nil)) la_nil)))))
  (lss_cons (ls_set (ps_set (i := 8) sc.nd rfl (by first | exact Or.inl rfl | exact Or.inr rfl) (le_call o__law_pull (hr.mono (by decide)) rfl (L2N.takes_of rfl rfl rfl rfl) (la_cons (le_var (pv 0)) (la_cons (le_len rfl h.f_len (la_cons (le_ix (hu65 hr) (le_var (pv 1)) le_i) la_nil)) la_nil)))))
  (lss_cons (ls_if (lt_not (lt_tru (le_call o__law_same (hr.mono (by decide)) rfl (L2N.takes_of rfl rfl rfl rfl) (la_cons (le_call o_letter_at (hr.mono (by decide)) rfl (L2N.takes_of rfl rfl rfl rfl) (la_cons (le_var (pv 4)) (la_cons (le_var (pv 7)) (la_cons (le_var (pv 8)) la_nil)))) (la_cons (le_ix (hu65 hr) (le_ix (hu65 hr) (le_var (pv 4)) (le_var (pv 7))) (le_var (pv 8))) la_nil)))))
  (lss_one (ls_ret le_b))
  lss_nil)
  (lss_cons (ls_setM (ps_set (i := 9) sc.nd rfl (by first | exact Or.inl rfl | exact Or.inr rfl) (le_lst la_nil)))
  (lss_cons (ls_for (passes_of rfl) rfl (li_rng1 rfl h.f_range (la_cons (le_len rfl h.f_len (la_cons (le_var (pv 1)) la_nil)) la_nil)) (lg_name (pg_name (i := 7) sc.nd rfl (by first | exact Or.inl rfl | exact Or.inr rfl)))
  (lss_one (ls_expr (le_extend (le_var (pv 9)) (la_cons (le_lc rfl sc.nd (li_rng1 rfl h.f_range (la_cons (le_len rfl h.f_len (la_cons (le_ix (hu65 hr) (le_var (pv 1)) le_i) la_nil)) la_nil)) (own := [("column", 8)]) (blk_of (by kernel_rfl)) (fun _ _ _ _ _ => (lc_name (pg_name (i := 8) sc.nd rfl (by first | exact Or.inl rfl | exact Or.inr rfl)))) (fun _ _ _ _ _ => (lts_one (lt_cmp (or_ne (hu65 hr)) od_ne (le_ix (hu65 hr) (le_ix (hu65 hr) (le_var (pv 1)) (le_var (pv 7))) (le_var (pv 8))) le_s))) (fun _ _ _ _ _ => (le_tup (la_cons (le_var (pv 7)) (la_cons (le_var (pv 8)) la_nil))))) la_nil) ⟨rfl, rfl, rfl, rfl, rfl⟩))))
  (lss_cons (ls_asg (le_call o__law_from (hr.mono (by decide)) rfl (L2N.takes_of rfl rfl rfl rfl) (la_cons (le_var (pv 0)) (la_cons (le_var (pv 9)) la_nil))) (lg_tup rfl (lgs_cons (lg_name (pg_name (i := 7) sc.nd rfl (by first | exact Or.inl rfl | exact Or.inr rfl))) (lgs_cons (lg_name (pg_name (i := 8) sc.nd rfl (by first | exact Or.inl rfl | exact Or.inr rfl))) lgs_nil))))
  (lss_cons (ls_set (ps_set (i := 10) sc.nd rfl (by first | exact Or.inl rfl | exact Or.inr rfl) (le_call o__law_from (hr.mono (by decide)) rfl (L2N.takes_of rfl rfl rfl rfl) (la_cons (le_var (pv 0)) (la_cons (le_ix (hu65 hr) (le_ix (hu65 hr) (le_var (pv 1)) (le_var (pv 7))) (le_var (pv 8))) la_nil)))))
  (lss_cons (ls_set (ps_set (i := 11) sc.nd rfl (by first | exact Or.inl rfl | exact Or.inr rfl) (le_add (le_add (le_sl (le_var (pv 4)) lo_none (lo_some (le_var (pv 7)))) (le_tup (la_cons (le_add (le_add (le_sl (le_ix (hu65 hr) (le_var (pv 4)) (le_var (pv 7))) lo_none (lo_some (le_var (pv 8)))) (le_var (pv 10))) (le_sl (le_ix (hu65 hr) (le_var (pv 4)) (le_var (pv 7))) (lo_some (le_add (le_var (pv 8)) le_i)) lo_none)) la_nil))) (le_sl (le_var (pv 4)) (lo_some (le_add (le_var (pv 7)) le_i)) lo_none))))
  (lss_one (ls_ret (le_andV (le_call o__law_same (hr.mono (by decide)) rfl (L2N.takes_of rfl rfl rfl rfl) (la_cons (le_call o_with_sign (hr.mono (by decide)) rfl (L2N.takes_of rfl rfl rfl rfl) (la_cons (le_var (pv 1)) (la_cons (le_var (pv 4)) (la_cons (le_var (pv 7)) (la_cons (le_var (pv 8)) (la_cons (le_var (pv 10)) la_nil)))))) (la_cons (le_var (pv 11)) la_nil))) (le_one (le_call o__law_same (hr.mono (by decide)) rfl (L2N.takes_of rfl rfl rfl rfl) (la_cons (le_call o_changed_cells (hr.mono (by decide)) rfl (L2N.takes_of rfl rfl rfl rfl) (la_cons (le_var (pv 4)) (la_cons (le_var (pv 11)) la_nil))) (la_cons (le_ifE (lt_cmp (or_ne (hu65 hr)) od_ne (le_var (pv 11)) (le_var (pv 4))) (le_tup (la_cons (le_tup (la_cons (le_var (pv 7)) (la_cons (le_var (pv 8)) la_nil))) la_nil)) (le_tup la_nil)) la_nil)))))))))))))))))))))))
abbrev s_law : Stmt := top 47
def D_law : He.DefD := ⟨("law", none), "law", "law", defArgs s_law, defBody s_law, defScope s_law, [], []⟩
theorem o_law {P : Program} {w : World} {K : PySem.W.Frag} {mg : Str → Option Value} {base : Heap} {f : Addr} {fd : FuncData} (h : Fx K w mg) (F : FnP K "law" s_law f fd) (hm : mg "law" = some (.ref f)) (o__law_chest : Own P w K mg base 1 "_law_chest" ["script"] F__law_chest_v1) (o__law_board : Own P w K mg base 3 "_law_board" ["chest", "rows", "columns"] F__law_board_v6) (o__law_pull : Own P w K mg base 1 "_law_pull" ["chest", "many"] F__law_pull_v1) (o__law_some : Own P w K mg base 7 "_law_some" ["chest", "board", "laps"] F__law_some) (o__law_edges : Own P w K mg base 6 "_law_edges" ["chest", "board"] F__law_edges) (o__law_refused : Own P w K mg base 7 "_law_refused" ["chest", "board"] F__law_refused) (o__law_judged : Own P w K mg base 6 "_law_judged" ["board", "thing"] F__law_judged) (o__law_same : Own P w K mg base 2 "_law_same" ["told", "due"] F__law_same_v1) (o__law_told : Own P w K mg base 5 "_law_told" ["board", "thing"] F__law_told_v5) : OwnAt P w K mg base 8 "law" ["script"] F_law_v7 f fd := by
  have sc : FnScope ["script", "chest", "lap", "board", "hand", "asks", "thing", "due"] ["script"] (defScope s_law) := ⟨rfl, rfl, rfl, by decide +kernel, rfl, by decide +kernel, by decide +kernel⟩
  refine own_of (d := D_law) (N := ["script", "chest", "lap", "board", "hand", "asks", "thing", "due"]) (ds := b_law_v7) F hm sc (fun _ _ _ _ _ _ us hl => match us, hl with | [_], _ => rfl) fun cdv A outer s H E hr => ?_
  unfold b_law_v7 L_law_v7_1 L_law_v7_0
  exact (lss_cons (ls_setM (ps_set (i := 1) sc.nd rfl (by first | exact Or.inl rfl | exact Or.inr rfl) (le_call o__law_chest (hr.mono (by decide)) rfl (L2N.takes_of rfl rfl rfl rfl) (la_cons (le_var (pv 0)) la_nil))))
  (lss_cons (ls_for (passes_of rfl) rfl (li_rng1 rfl h.f_range (la_cons le_i la_nil)) (lg_name (pg_name (i := 2) sc.nd rfl (by first | exact Or.inl rfl | exact Or.inr rfl)))
  (lss_cons (ls_set (ps_set (i := 3) sc.nd rfl (by first | exact Or.inl rfl | exact Or.inr rfl) (le_call o__law_board (hr.mono (by decide)) rfl (L2N.takes_of rfl rfl rfl rfl) (la_cons (le_var (pv 1)) (la_cons (le_add le_i (le_call o__law_pull (hr.mono (by decide)) rfl (L2N.takes_of rfl rfl rfl rfl) (la_cons (le_var (pv 1)) (la_cons le_i la_nil)))) (la_cons (le_add le_i (le_call o__law_pull (hr.mono (by decide)) rfl (L2N.takes_of rfl rfl rfl rfl) (la_cons (le_var (pv 1)) (la_cons le_i la_nil)))) la_nil))))))
  (lss_one (ls_if (lt_w (lw_or (lt_not (lt_tru (le_call o__law_some (hr.mono (by decide)) rfl (L2N.takes_of rfl rfl rfl rfl) (la_cons (le_var (pv 1)) (la_cons (le_var (pv 3)) (la_cons le_i la_nil)))))) (lw_or (lt_not (lt_tru (le_call o__law_edges (hr.mono (by decide)) rfl (L2N.takes_of rfl rfl rfl rfl) (la_cons (le_var (pv 1)) (la_cons (le_var (pv 3)) la_nil))))) (lw_or1 (lt_not (lt_tru (le_call o__law_refused (hr.mono (by decide)) rfl (L2N.takes_of rfl rfl rfl rfl) (la_cons (le_var (pv 1)) (la_cons (le_var (pv 3)) la_nil)))))))))
  (lss_one (ls_ret le_b))
  lss_nil))))
  (lss_cons (ls_set (ps_set (i := 4) sc.nd rfl (by first | exact Or.inl rfl | exact Or.inr rfl) (le_tup (la_cons (le_tup (la_cons le_s (la_cons le_s (la_cons le_s la_nil)))) (la_cons (le_tup (la_cons le_s (la_cons le_s (la_cons le_s la_nil)))) la_nil)))))
  (lss_cons (ls_if (lt_w (lw_or (lt_not (lt_tru (le_call o__law_judged (hr.mono (by decide)) rfl (L2N.takes_of rfl rfl rfl rfl) (la_cons (le_var (pv 4)) (la_cons (le_tup (la_cons le_s (la_cons le_s la_nil))) la_nil))))) (lw_or1 (lt_not (lt_tru (le_call o__law_refused (hr.mono (by decide)) rfl (L2N.takes_of rfl rfl rfl rfl) (la_cons (le_var (pv 1)) (la_cons (le_var (pv 4)) la_nil))))))))
  (lss_one (ls_ret le_b))
  lss_nil)
  (lss_cons (ls_set (ps_set (i := 5) sc.nd rfl (by first | exact Or.inl rfl | exact Or.inr rfl) (le_lst (la_cons (le_tup (la_cons (le_tup (la_cons le_s (la_cons le_s la_nil))) (la_cons (le_tup (la_cons le_i (la_cons (le_neg le_i) (la_cons le_s la_nil)))) la_nil))) (la_cons (le_tup (la_cons (le_tup (la_cons le_s (la_cons le_s la_nil))) (la_cons (le_tup (la_cons le_i (la_cons le_i (la_cons le_s la_nil)))) la_nil))) (la_cons (le_tup (la_cons (le_tup (la_cons le_s (la_cons le_s la_nil))) (la_cons (le_tup (la_cons le_i (la_cons le_i (la_cons le_s la_nil)))) la_nil))) (la_cons (le_tup (la_cons (le_tup (la_cons le_s (la_cons le_s la_nil))) (la_cons (le_tup (la_cons le_i (la_cons le_i (la_cons le_s la_nil)))) la_nil))) la_nil)))))))
  (lss_cons (ls_for (passes_of rfl) rfl (li_seq (le_var (pv 5))) (lg_tup rfl (lgs_cons (lg_name (pg_name (i := 6) sc.nd rfl (by first | exact Or.inl rfl | exact Or.inr rfl))) (lgs_cons (lg_name (pg_name (i := 7) sc.nd rfl (by first | exact Or.inl rfl | exact Or.inr rfl))) lgs_nil)))
  (lss_one (ls_if (lt_not (lt_tru (le_call o__law_same (hr.mono (by decide)) rfl (L2N.takes_of rfl rfl rfl rfl) (la_cons (le_call o__law_told (hr.mono (by decide)) rfl (L2N.takes_of rfl rfl rfl rfl) (la_cons (le_var (pv 4)) (la_cons (le_var (pv 6)) la_nil))) (la_cons (le_var (pv 7)) la_nil)))))
  (lss_one (ls_ret le_b))
  lss_nil)))
  (lss_cons (ls_if (lt_cmp (or_eq (hu65 hr)) od_eq (le_call o__law_pull (hr.mono (by decide)) rfl (L2N.takes_of rfl rfl rfl rfl) (la_cons (le_var (pv 1)) (la_cons le_i la_nil))) le_i)
  (lss_cons (ls_set (ps_set (i := 3) sc.nd rfl (by first | exact Or.inl rfl | exact Or.inr rfl) (le_call o__law_board (hr.mono (by decide)) rfl (L2N.takes_of rfl rfl rfl rfl) (la_cons (le_var (pv 1)) (la_cons le_i (la_cons le_i la_nil))))))
  (lss_one (ls_ret (le_andV (le_call o__law_some (hr.mono (by decide)) rfl (L2N.takes_of rfl rfl rfl rfl) (la_cons (le_var (pv 1)) (la_cons (le_var (pv 3)) (la_cons le_i la_nil)))) (le_one (le_call o__law_edges (hr.mono (by decide)) rfl (L2N.takes_of rfl rfl rfl rfl) (la_cons (le_var (pv 1)) (la_cons (le_var (pv 3)) la_nil))))))))
  lss_nil)
  (lss_one (ls_ret le_b)))))))))
end Gk11

namespace Gk11
open PySem PySem.Spec L2 Dn Pk
/-! the head -/
def fnl : List He.DefD := [D__law_chest, D__law_pull, D__law_from, D__law_board, D__law_fault, D__law_whole, D__law_same, D_fits_kind, D_look_at_sign, D_check_setting, D__law_told, D_is_setting, D__law_judged, D__law_setting, D_is_whole, D_is_number, D_letter_at, D_has_cell, D_look_for_cell, D_look_for_open, D_put_sign, D_is_letter, D_with_sign, D__law_word, D__law_refused, D__law_bent, D__law_row, D__law_some, D_changed_cells, D_first_setting, D_last_setting, D__law_edges, D_law, Di_BadSetting, Di_BadStep]
def fal : List He.Fa := ([.glo "_law_chest", .glo "_law_pull", .glo "_law_from", .glo "_law_board", .glo "_law_fault", .glo "_law_whole", .glo "_law_same", .glo "fits_kind", .glo "look_at_sign", .glo "check_setting", .glo "_law_told", .glo "is_setting"] : List He.Fa) ++ ([.glo "_law_judged", .glo "_law_setting", .glo "is_whole", .glo "is_number", .glo "letter_at", .glo "has_cell", .glo "look_for_cell", .glo "look_for_open", .glo "put_sign", .glo "is_letter", .glo "with_sign", .glo "_law_word"] : List He.Fa) ++ ([.glo "_law_refused", .glo "_law_bent", .glo "_law_row", .glo "_law_some", .glo "changed_cells", .glo "first_setting", .glo "last_setting", .glo "_law_edges", .glo "law", .free "bool", .free "int", .free "isinstance"] : List He.Fa) ++ ([.free "len", .free "list", .free "range", .free "str", .free "tuple", .glo "LightError", .glo "BadSetting", .glo "BadStep"] : List He.Fa)
def tabs : List He.Tab := []
def exB (K : PySem.W.Frag) : Bool := (chkG K "LETTERS" c_LETTERS && (oexB K (He.ga K "BadSetting") (He.ma K (He.ga K "BadSetting") "__init__") ["row", "column", "word"] && (oexB K (He.ga K "BadStep") (He.ma K (He.ga K "BadStep") "__init__") ["word"] && (hdB K "BadSetting" [("BadSetting", true), ("BadStep", false)] ["row", "column", "word"] && (hdB K "LightError" [("BadSetting", true), ("BadStep", true)] [] && (hdB K "BadSetting" [("BadSetting", true), ("BadStep", false)] [] && (hdB K "BadStep" [("BadSetting", false), ("BadStep", true)] ["word"] && true)))))))
abbrev R : PySem.W.OpenRow := PySem.W.OpenLaw.row PySem.Challenge.rw_lightled_k11_settings_checked
abbrev hk : PySem.W.Hook := He.hookX 5 fal fnl tabs [] exB
def ob (s : PySem.W.SharedT) : He.AlX := He.obsX 5 fal fnl tabs [] exB (HandSHeadRun.getT s)
theorem ob_eq (s : PySem.W.SharedT) : ob s = hk.obs s.abs := He.obsX_eq (HandSHeadRun.getT_eq s)
def loose : List Str := (["LightError", "DataError", "CallError", "BadSetting", "BadStep", "fits_kind", "check_setting", "look_at_sign", "is_setting", "LETTERS", "is_letter", "has_cell"] : List Str) ++ (["is_whole", "is_number", "look_for_cell", "look_for_open", "first_setting", "last_setting", "letter_at", "put_sign", "with_sign", "changed_cells", "_law_chest", "_law_pull"] : List Str) ++ (["_law_from", "_law_whole", "_law_same", "_law_board", "_law_setting", "_law_fault", "_law_told", "_law_judged", "_law_bent", "_law_some", "_law_row", "_law_edges"] : List Str) ++ (["_law_word", "_law_refused"] : List Str)
abbrev qv : Program := PySem.W.view R.prog [47]
set_option maxHeartbeats 0 in
theorem run (w : World) : HandSHeadRun.RunEq R qv hk ob 20000 loose w := by
  refine PySem.W.byRow2 "special-get-raises" (P := fun w => HandSHeadRun.RunEq R qv hk ob 20000 loose w) ?_ ?_ w
  · intro w os
    kernel_rfl
  · intro w os
    kernel_rfl
theorem facts {P : Program} {w : World} {K : PySem.W.Frag} {h : Heap} {mg : Str → Option Value} (X : K.In h) (G : h.Ns mainGlobals mg) (c : He.SaysX fal fnl tabs [] exB w h K) :
    ∃ fd : FuncData, (∀ (s : Shared) (v : Value), BindsTo s fd ⟨[v], []⟩ [("script", v)]) ∧ ∀ base : Heap, OwnAt P w K mg base 8 "law" ["script"] F_law_v7 (He.ga K "law") fd := by
  have cx := c.more
  unfold exB at cx
  simp only [Bool.and_eq_true, and_true] at cx
  obtain ⟨x_0, x_1, x_2, x_3, x_4, x_5, x_6⟩ := cx
  have gl_LightError : mg "LightError" = some (.ref (He.ga K "LightError")) := He.glo_ok X G (c.t.d.fact 41 (f := .glo "LightError") rfl)
  have gl_BadSetting : mg "BadSetting" = some (.ref (He.ga K "BadSetting")) := He.glo_ok X G (c.t.d.fact 42 (f := .glo "BadSetting") rfl)
  have gl_BadStep : mg "BadStep" = some (.ref (He.ga K "BadStep")) := He.glo_ok X G (c.t.d.fact 43 (f := .glo "BadStep") rfl)
  have hx : Fx K w mg := {
    f_bool := He.free_ok X G (c.t.d.fact 33 (f := .free "bool") rfl)
    f_int := He.free_ok X G (c.t.d.fact 34 (f := .free "int") rfl)
    f_isinstance := He.free_ok X G (c.t.d.fact 35 (f := .free "isinstance") rfl)
    f_len := He.free_ok X G (c.t.d.fact 36 (f := .free "len") rfl)
    f_list := He.free_ok X G (c.t.d.fact 37 (f := .free "list") rfl)
    f_range := He.free_ok X G (c.t.d.fact 38 (f := .free "range") rfl)
    f_str := He.free_ok X G (c.t.d.fact 39 (f := .free "str") rfl)
    f_tuple := He.free_ok X G (c.t.d.fact 40 (f := .free "tuple") rfl)
    g_LETTERS := chkG_ok X G x_0
    x_BadSetting_0 := hdx_of gl_BadSetting (List.forall_mem_cons.mpr ⟨gl_BadSetting, (List.forall_mem_cons.mpr ⟨gl_BadStep, (fun _ z => nomatch z)⟩)⟩) x_3
    x_LightError_1 := hdx_of gl_LightError (List.forall_mem_cons.mpr ⟨gl_BadSetting, (List.forall_mem_cons.mpr ⟨gl_BadStep, (fun _ z => nomatch z)⟩)⟩) x_4
    x_BadSetting_2 := hdx_of gl_BadSetting (List.forall_mem_cons.mpr ⟨gl_BadSetting, (List.forall_mem_cons.mpr ⟨gl_BadStep, (fun _ z => nomatch z)⟩)⟩) x_5
    x_BadStep_3 := hdx_of gl_BadStep (List.forall_mem_cons.mpr ⟨gl_BadSetting, (List.forall_mem_cons.mpr ⟨gl_BadStep, (fun _ z => nomatch z)⟩)⟩) x_6
  }
  obtain ⟨fd_0, A_0⟩ := c.t.d.def_ 0 (d := D__law_chest) rfl
  obtain ⟨fd_1, A_1⟩ := c.t.d.def_ 1 (d := D__law_pull) rfl
  obtain ⟨fd_2, A_2⟩ := c.t.d.def_ 2 (d := D__law_from) rfl
  obtain ⟨fd_3, A_3⟩ := c.t.d.def_ 3 (d := D__law_board) rfl
  obtain ⟨fd_4, A_4⟩ := c.t.d.def_ 4 (d := D__law_fault) rfl
  obtain ⟨fd_5, A_5⟩ := c.t.d.def_ 5 (d := D__law_whole) rfl
  obtain ⟨fd_6, A_6⟩ := c.t.d.def_ 6 (d := D__law_same) rfl
  obtain ⟨fd_7, A_7⟩ := c.t.d.def_ 7 (d := D_fits_kind) rfl
  obtain ⟨fd_8, A_8⟩ := c.t.d.def_ 8 (d := D_look_at_sign) rfl
  obtain ⟨fd_9, A_9⟩ := c.t.d.def_ 9 (d := D_check_setting) rfl
  obtain ⟨fd_10, A_10⟩ := c.t.d.def_ 10 (d := D__law_told) rfl
  obtain ⟨fd_11, A_11⟩ := c.t.d.def_ 11 (d := D_is_setting) rfl
  obtain ⟨fd_12, A_12⟩ := c.t.d.def_ 12 (d := D__law_judged) rfl
  obtain ⟨fd_13, A_13⟩ := c.t.d.def_ 13 (d := D__law_setting) rfl
  obtain ⟨fd_14, A_14⟩ := c.t.d.def_ 14 (d := D_is_whole) rfl
  obtain ⟨fd_15, A_15⟩ := c.t.d.def_ 15 (d := D_is_number) rfl
  obtain ⟨fd_16, A_16⟩ := c.t.d.def_ 16 (d := D_letter_at) rfl
  obtain ⟨fd_17, A_17⟩ := c.t.d.def_ 17 (d := D_has_cell) rfl
  obtain ⟨fd_18, A_18⟩ := c.t.d.def_ 18 (d := D_look_for_cell) rfl
  obtain ⟨fd_19, A_19⟩ := c.t.d.def_ 19 (d := D_look_for_open) rfl
  obtain ⟨fd_20, A_20⟩ := c.t.d.def_ 20 (d := D_put_sign) rfl
  obtain ⟨fd_21, A_21⟩ := c.t.d.def_ 21 (d := D_is_letter) rfl
  obtain ⟨fd_22, A_22⟩ := c.t.d.def_ 22 (d := D_with_sign) rfl
  obtain ⟨fd_23, A_23⟩ := c.t.d.def_ 23 (d := D__law_word) rfl
  obtain ⟨fd_24, A_24⟩ := c.t.d.def_ 24 (d := D__law_refused) rfl
  obtain ⟨fd_25, A_25⟩ := c.t.d.def_ 25 (d := D__law_bent) rfl
  obtain ⟨fd_26, A_26⟩ := c.t.d.def_ 26 (d := D__law_row) rfl
  obtain ⟨fd_27, A_27⟩ := c.t.d.def_ 27 (d := D__law_some) rfl
  obtain ⟨fd_28, A_28⟩ := c.t.d.def_ 28 (d := D_changed_cells) rfl
  obtain ⟨fd_29, A_29⟩ := c.t.d.def_ 29 (d := D_first_setting) rfl
  obtain ⟨fd_30, A_30⟩ := c.t.d.def_ 30 (d := D_last_setting) rfl
  obtain ⟨fd_31, A_31⟩ := c.t.d.def_ 31 (d := D__law_edges) rfl
  obtain ⟨fd_32, A_32⟩ := c.t.d.def_ 32 (d := D_law) rfl
  obtain ⟨fi_0, I_0⟩ := c.t.d.def_ 33 (d := Di_BadSetting) rfl
  have M_BadSetting (base : Heap) := i_BadSetting (P := P) (w := w) (base := base) gl_BadSetting x_1 I_0
  obtain ⟨fi_1, I_1⟩ := c.t.d.def_ 34 (d := Di_BadStep) rfl
  have M_BadStep (base : Heap) := i_BadStep (P := P) (w := w) (base := base) gl_BadStep x_2 I_1
  have b := FunD.bindsA (ps := ["script"]) A_32 fun _ _ _ _ _ _ us hl => match us, hl with | [_], _ => rfl
  refine ⟨fd_32, fun s v => b s [v] rfl, fun base => ?_⟩
  have B_0 := o__law_chest (P := P) (base := base) hx A_0 (He.glo_ok X G (c.t.d.fact 0 (f := .glo "_law_chest") rfl))
  have B_1 := o__law_pull (P := P) (base := base) hx A_1 (He.glo_ok X G (c.t.d.fact 1 (f := .glo "_law_pull") rfl))
  have B_2 := o__law_from (P := P) (base := base) hx A_2 (He.glo_ok X G (c.t.d.fact 2 (f := .glo "_law_from") rfl)) B_1.own
  have B_3 := o__law_board (P := P) (base := base) hx A_3 (He.glo_ok X G (c.t.d.fact 3 (f := .glo "_law_board") rfl)) B_1.own B_2.own
  have B_4 := o__law_fault (P := P) (base := base) hx A_4 (He.glo_ok X G (c.t.d.fact 4 (f := .glo "_law_fault") rfl))
  have B_5 := o__law_whole (P := P) (base := base) hx A_5 (He.glo_ok X G (c.t.d.fact 5 (f := .glo "_law_whole") rfl))
  have B_6 := o__law_same (P := P) (base := base) hx A_6 (He.glo_ok X G (c.t.d.fact 6 (f := .glo "_law_same") rfl)) B_5.own
  have B_7 := o_fits_kind (P := P) (base := base) hx A_7 (He.glo_ok X G (c.t.d.fact 7 (f := .glo "fits_kind") rfl))
  have B_8 := o_look_at_sign (P := P) (base := base) hx A_8 (He.glo_ok X G (c.t.d.fact 8 (f := .glo "look_at_sign") rfl)) B_7.own (M_BadSetting base)
  have B_9 := o_check_setting (P := P) (base := base) hx A_9 (He.glo_ok X G (c.t.d.fact 9 (f := .glo "check_setting") rfl)) (M_BadSetting base) B_8.own
  have B_10 := o__law_told (P := P) (base := base) hx A_10 (He.glo_ok X G (c.t.d.fact 10 (f := .glo "_law_told") rfl)) B_9.own
  have B_11 := o_is_setting (P := P) (base := base) hx A_11 (He.glo_ok X G (c.t.d.fact 11 (f := .glo "is_setting") rfl)) B_9.own
  have B_12 := o__law_judged (P := P) (base := base) hx A_12 (He.glo_ok X G (c.t.d.fact 12 (f := .glo "_law_judged") rfl)) B_4.own B_6.own B_10.own B_11.own
  have B_13 := o__law_setting (P := P) (base := base) hx A_13 (He.glo_ok X G (c.t.d.fact 13 (f := .glo "_law_setting") rfl)) B_1.own
  have B_14 := o_is_whole (P := P) (base := base) hx A_14 (He.glo_ok X G (c.t.d.fact 14 (f := .glo "is_whole") rfl))
  have B_15 := o_is_number (P := P) (base := base) hx A_15 (He.glo_ok X G (c.t.d.fact 15 (f := .glo "is_number") rfl)) B_14.own
  have B_16 := o_letter_at (P := P) (base := base) hx A_16 (He.glo_ok X G (c.t.d.fact 16 (f := .glo "letter_at") rfl)) B_15.own (M_BadStep base)
  have B_17 := o_has_cell (P := P) (base := base) hx A_17 (He.glo_ok X G (c.t.d.fact 17 (f := .glo "has_cell") rfl))
  have B_18 := o_look_for_cell (P := P) (base := base) hx A_18 (He.glo_ok X G (c.t.d.fact 18 (f := .glo "look_for_cell") rfl)) B_14.own B_17.own (M_BadStep base)
  have B_19 := o_look_for_open (P := P) (base := base) hx A_19 (He.glo_ok X G (c.t.d.fact 19 (f := .glo "look_for_open") rfl)) B_18.own (M_BadStep base)
  have B_20 := o_put_sign (P := P) (base := base) hx A_20 (He.glo_ok X G (c.t.d.fact 20 (f := .glo "put_sign") rfl))
  have B_21 := o_is_letter (P := P) (base := base) hx A_21 (He.glo_ok X G (c.t.d.fact 21 (f := .glo "is_letter") rfl))
  have B_22 := o_with_sign (P := P) (base := base) hx A_22 (He.glo_ok X G (c.t.d.fact 22 (f := .glo "with_sign") rfl)) B_21.own (M_BadStep base) B_19.own B_20.own
  have B_23 := o__law_word (P := P) (base := base) hx A_23 (He.glo_ok X G (c.t.d.fact 23 (f := .glo "_law_word") rfl)) B_16.own B_22.own
  have B_24 := o__law_refused (P := P) (base := base) hx A_24 (He.glo_ok X G (c.t.d.fact 24 (f := .glo "_law_refused") rfl)) B_13.own B_1.own B_2.own B_23.own
  have B_25 := o__law_bent (P := P) (base := base) hx A_25 (He.glo_ok X G (c.t.d.fact 25 (f := .glo "_law_bent") rfl)) B_1.own B_2.own
  have B_26 := o__law_row (P := P) (base := base) hx A_26 (He.glo_ok X G (c.t.d.fact 26 (f := .glo "_law_row") rfl)) B_1.own B_2.own
  have B_27 := o__law_some (P := P) (base := base) hx A_27 (He.glo_ok X G (c.t.d.fact 27 (f := .glo "_law_some") rfl)) B_13.own B_12.own B_6.own B_11.own B_25.own B_1.own B_26.own
  have B_28 := o_changed_cells (P := P) (base := base) hx A_28 (He.glo_ok X G (c.t.d.fact 28 (f := .glo "changed_cells") rfl))
  have B_29 := o_first_setting (P := P) (base := base) hx A_29 (He.glo_ok X G (c.t.d.fact 29 (f := .glo "first_setting") rfl))
  have B_30 := o_last_setting (P := P) (base := base) hx A_30 (He.glo_ok X G (c.t.d.fact 30 (f := .glo "last_setting") rfl))
  have B_31 := o__law_edges (P := P) (base := base) hx A_31 (He.glo_ok X G (c.t.d.fact 31 (f := .glo "_law_edges") rfl)) B_6.own B_29.own B_30.own B_13.own B_28.own B_1.own B_16.own B_2.own B_22.own
  have B_32 := o_law (P := P) (base := base) hx A_32 (He.glo_ok X G (c.t.d.fact 32 (f := .glo "law") rfl)) B_0.own B_3.own B_1.own B_27.own B_31.own B_24.own B_12.own B_6.own B_10.own
  exact B_32
end Gk11

open PySem PySem.W PySem.Calls PyProof.Rows in
set_option maxRecDepth 100000 in
set_option maxHeartbeats 0 in
theorem PySem.Challenge.cw_lightled_k11_settings_checked_holds : PySem.Challenge.rw_lightled_k11_settings_checked.Holds := by
  w_on; o_law
  refine HandSHeadRun.head_any (r := OpenLaw.row PySem.Challenge.rw_lightled_k11_settings_checked) (q := view (OpenLaw.row PySem.Challenge.rw_lightled_k11_settings_checked).prog [47]) (H := Gk11.hk) (ob := Gk11.ob) (M := 20000) (loose := Gk11.loose) (d := HandSHeadRun.topDef (OpenLaw.row PySem.Challenge.rw_lightled_k11_settings_checked).prog 47) (kwd := []) Gk11.ob_eq
    (by kernel_rfl) (fun s => by kernel_rfl) Gk11.run (by kernel_rfl) (by kernel_rfl) (by kernel_rfl) (by rfl) (by first | assumption | decide +kernel) (by decide +kernel) ⟨rfl, rfl, rfl, rfl, rfl, by decide +kernel⟩ ?hw ?hc
  case hw => w_witness2
  case hc =>
    refine Dn.walk_law (l := PySem.Challenge.rw_lightled_k11_settings_checked) (k := 8) (F := Pk.F_law_v7) rfl (by kernel_rfl) ⟨rfl, by decide, by decide⟩ (fun ns hl => Bd.law_true ns hl) ?F
    intro w mg fa h Y G hmg0
    obtain ⟨K, KX, c⟩ := Y
    have e : (HandSHeadRun.topDef (OpenLaw.row PySem.Challenge.rw_lightled_k11_settings_checked).prog 47).name = ("law" : PySem.Str) := by kernel_rfl
    obtain ⟨fd, hb, hO⟩ := Gk11.facts (P := (PySem.Challenge.rw_lightled_k11_settings_checked).prog) (w := w) KX G c
    refine ⟨K, fd, KX, hb, fun base => ⟨_, ?_, hO base⟩⟩
    rw [e]
    exact (hO base).hm
