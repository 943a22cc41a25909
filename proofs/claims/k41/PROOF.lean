import PyProof.Rows.All
import Wide.All
import OpenK.AllK
import Wide.FinOn
import KE.KStateDown
import HandS.More
import HandS.Words
import HandS.ForMost
import HandS.Exc
import HandS.ExcOwn
import HandS.CallSlots
import HandS.WordsExc
import HandS.Walk
import HandS.TupAny
import HandS.TupMul
import HandS.TupLe
import HandS.Style
import HandS.Deep
import HandS.Star
import HandS.Conv
import PyProof.TupleOfStr
import PyProof.ListStr
import HandS.Defaults
import HandS.IsInst
import HandS.DictComp
import KE.GoesEnum
import HandS.Zip
import HandS.SortRule
import PyProof.Rows.TupDisplay
import HandS.Ends
import HandS.Text
import HandS.Head0
import HandS.Head1
import HandS.Head2
import HandS.HeadEnd
import HandS.HeadHook1
import HandS.HeadHook2
import PySem.Challenge.RW_paircuts_k41_ends_by_any_order_told
set_option Elab.async false
set_option linter.all false
set_option maxRecDepth 100000
set_option maxHeartbeats 1000000
namespace Eng
open PySem PySem.Spec PyProof.Rows L2

/-! ### plain values, the store -/
inductive W where
  | non | bl (b : Bool) | int (i : Int) | str (x : Str) | tup (xs : List W) | lst (xs : List W) | ref (n : Nat)
  /-- a tuple of the module's own -/
  | ktup (xs : List W)
  /-- the script -/
  | scr (ns : List Int)
  deriving Inhabited

mutual
def W.isData : W → Bool
  | .ref _ => false
  | .tup xs => allData xs
  | .lst xs => allData xs
  | .ktup xs => allData xs
  | _ => true
def allData : List W → Bool
  | [] => true
  | x :: xs => x.isData && allData xs
end

inductive Ob where
  | lst (xs : List W)
  | dK (kvs : List (Key × W))
  | dT (kvs : List (List Key × W))
  deriving Inhabited
def Ob.isData : Ob → Bool
  | .lst xs => allData xs
  | .dK kvs => allData (kvs.map (·.2))
  | .dT kvs => allData (kvs.map (·.2))
abbrev Store := List Ob
abbrev ASt := List (Option W)
structure XV where
  cls : Value
  fs : List (Str × W)
inductive Res (α : Type) where
  | ok (a : α) (S : Store)
  | exc (x : XV) (S : Store)
  | fail
inductive SRes where
  | next (σ : ASt) (S : Store)
  | ret (w : W) (S : Store)
  | brk (σ : ASt) (S : Store)
  | cnt (σ : ASt) (S : Store)
  | exc (x : XV) (σ : ASt) (S : Store)
  | fail
abbrev FE := ASt → Store → Res W
abbrev FT := ASt → Store → Res Bool
abbrev FA := ASt → Store → Res (List W)
abbrev FS := ASt → Store → SRes
abbrev FG := W → ASt → Store → Res ASt

def Res.bind {α β : Type} (r : Res α) (k : α → Store → Res β) : Res β :=
  match r with
  | .ok a S => k a S
  | .exc x S => .exc x S
  | .fail => .fail
@[simp] theorem Res.bind_ok {α β : Type} (a : α) (S : Store) (k : α → Store → Res β) : (Res.ok a S).bind k = k a S := rfl
@[simp] theorem Res.bind_exc {α β : Type} (x : XV) (S : Store) (k : α → Store → Res β) : (Res.exc x S : Res α).bind k = .exc x S := rfl
@[simp] theorem Res.bind_fail {α β : Type} (k : α → Store → Res β) : (Res.fail : Res α).bind k = .fail := rfl
def Res.toS {α : Type} (r : Res α) (σ : ASt) (k : α → Store → SRes) : SRes :=
  match r with
  | .ok a S => k a S
  | .exc x S => .exc x σ S
  | .fail => .fail
@[simp] theorem Res.toS_ok {α : Type} (a : α) (S : Store) (σ : ASt) (k : α → Store → SRes) : (Res.ok a S).toS σ k = k a S := rfl
@[simp] theorem Res.toS_exc {α : Type} (x : XV) (S : Store) (σ : ASt) (k : α → Store → SRes) : (Res.exc x S : Res α).toS σ k = .exc x σ S := rfl
@[simp] theorem Res.toS_fail {α : Type} (σ : ASt) (k : α → Store → SRes) : (Res.fail : Res α).toS σ k = .fail := rfl

/-- where the store's objects stand; where hidden ones do (a list that a comprehension fills) -/
structure Rho where
  refs : List Addr
  hid : List Addr
def Rho.out (ρ : Rho) (a : Addr) : Prop := a ∉ ρ.refs ∧ a ∉ ρ.hid
def Rho.add (ρ : Rho) (p : Addr) : Rho := { ρ with refs := ρ.refs ++ [p] }
/-! ### what stands for what -/
def KT (K : PySem.W.Frag) (a : Addr) (xs : List V) : Prop :=
  ∃ (o : Obj) (its : Array Value) (n : Nat), K.lookup a = some o ∧ o.cls = .type "tuple" ∧ o.data = .seq its n ∧ its.size ≤ sizeLine ∧ Vals xs its.toList
def okS (x : Str) : Bool := x.cps.all (· < 0x110000) && decide (x.length ≤ sizeLine)
def TupAt (ρ : Rho) (H : Hp) (a : Addr) (vs : List V) : Prop := H a = some (.tup vs) ∧ ρ.out a
def LstAt (ρ : Rho) (H : Hp) (a : Addr) (vs : List V) : Prop := H a = some (.lst vs) ∧ ρ.out a
def KL (K : PySem.W.Frag) (a : Addr) (xs : List V) : Prop :=
  ∃ (o : Obj) (its : Array Value) (n : Nat), K.lookup a = some o ∧ o.cls = .type "list" ∧ o.dict = none ∧ o.data = .seq its n ∧ its.size ≤ sizeLine ∧ Vals xs its.toList
def ScrAt (K : PySem.W.Frag) (ρ : Rho) (H : Hp) (a : Addr) (vs : List V) : Prop := (Rd H a (.lst vs) ∧ ρ.out a) ∨ KL K a vs
theorem TupAt.sq {K : PySem.W.Frag} {ρ : Rho} {H : Hp} {a : Addr} {vs : List V} (h : TupAt ρ H a vs) : SqT K H a vs := .inl (.inl h.1)
theorem LstAt.sq {K : PySem.W.Frag} {ρ : Rho} {H : Hp} {a : Addr} {vs : List V} (h : LstAt ρ H a vs) : SqL K H a vs := .inl (.inl h.1)
theorem ScrAt.sq {K : PySem.W.Frag} {ρ : Rho} {H : Hp} {a : Addr} {vs : List V} (h : ScrAt K ρ H a vs) : SqL K H a vs := h.elim (fun h => .inl h.1) .inr

mutual
inductive Rep (K : PySem.W.Frag) (ρ : Rho) (H : Hp) : V → W → Prop
  | non : Rep K ρ H .non .non
  | bl {b : Bool} : Rep K ρ H (.bl b) (.bl b)
  | int {i : Int} : Rep K ρ H (.int i) (.int i)
  | str {x : Str} : okS x = true → Rep K ρ H (.str x) (.str x)
  | tup {a : Addr} {vs : List V} {ws : List W} : TupAt ρ H a vs → RepL K ρ H vs ws → Rep K ρ H (.ref a) (.tup ws)
  | lst {a : Addr} {vs : List V} {ws : List W} : LstAt ρ H a vs → RepL K ρ H vs ws → Rep K ρ H (.ref a) (.lst ws)
  | ktup {a : Addr} {vs : List V} {ws : List W} : KT K a vs → RepL K ρ H vs ws → Rep K ρ H (.ref a) (.ktup ws)
  | scr {a : Addr} {ns : List Int} : ScrAt K ρ H a (ns.map V.int) → Rep K ρ H (.ref a) (.scr ns)
  | ref {a : Addr} {n : Nat} : ρ.refs[n]? = some a → Rep K ρ H (.ref a) (.ref n)
inductive RepL (K : PySem.W.Frag) (ρ : Rho) (H : Hp) : List V → List W → Prop
  | nil : RepL K ρ H [] []
  | cons {v : V} {w : W} {vs : List V} {ws : List W} : Rep K ρ H v w → RepL K ρ H vs ws → RepL K ρ H (v :: vs) (w :: ws)
end

/-- what stood and was neither of the store nor hidden stands -/
structure Ext (ρ : Rho) (H : Hp) (ρ' : Rho) (H' : Hp) : Prop where
  pre : ∃ more, ρ'.refs = ρ.refs ++ more
  keep : ∀ a o, H a = some o → ρ.out a → H' a = some o ∧ ρ'.out a
/-- what may have become of the heap -/
structure Evo (ρ : Rho) (H : Hp) (ρ' : Rho) (H' : Hp) : Prop extends Ext ρ H ρ' H' where
  hid : ρ'.hid = ρ.hid
  stay : ∀ a ∈ ρ.hid, H' a = H a
theorem Ext.refl {ρ : Rho} {H : Hp} : Ext ρ H ρ H := ⟨⟨[], by simp⟩, fun _ _ h n => ⟨h, n⟩⟩
theorem Ext.trans {ρ ρ1 ρ2 : Rho} {H H1 H2 : Hp} (a : Ext ρ H ρ1 H1) (b : Ext ρ1 H1 ρ2 H2) : Ext ρ H ρ2 H2 := by
  obtain ⟨m1, e1⟩ := a.pre
  obtain ⟨m2, e2⟩ := b.pre
  exact ⟨⟨m1 ++ m2, by rw [e2, e1, List.append_assoc]⟩, fun x o h n => let ⟨h1, n1⟩ := a.keep x o h n; b.keep x o h1 n1⟩
theorem Evo.refl {ρ : Rho} {H : Hp} : Evo ρ H ρ H := ⟨Ext.refl, rfl, fun _ _ => rfl⟩
theorem Evo.trans {ρ ρ1 ρ2 : Rho} {H H1 H2 : Hp} (a : Evo ρ H ρ1 H1) (b : Evo ρ1 H1 ρ2 H2) : Evo ρ H ρ2 H2 := by
  exact ⟨a.toExt.trans b.toExt, b.hid.trans a.hid, fun x hx => (b.stay x (by rw [a.hid]; exact hx)).trans (a.stay x hx)⟩
theorem Evo.fresh' {ρ : Rho} {H : Hp} {p : Addr} {o : HO} (h : H p = none) (hp : p ∉ ρ.hid) : Evo ρ H ρ (upd H p o) :=
  ⟨⟨⟨[], by simp⟩, fun a u e n => ⟨by rw [upd_ne (ne_of_none e h)]; exact e, n⟩⟩, rfl, fun a ha => upd_ne fun z => hp (z ▸ ha)⟩
theorem Evo.alloc' {ρ : Rho} {H : Hp} {p : Addr} {o : HO} (h : H p = none) (hp : p ∉ ρ.hid) : Evo ρ H (ρ.add p) (upd H p o) :=
  ⟨⟨⟨[p], rfl⟩, fun a u e n => ⟨by rw [upd_ne (ne_of_none e h)]; exact e, by
    refine ⟨?_, n.2⟩
    show a ∉ ρ.refs ++ [p]
    simp only [List.mem_append, List.mem_singleton]
    exact fun z => z.elim n.1 fun z => ne_of_none e h z⟩⟩, rfl, fun a ha => upd_ne fun z => hp (z ▸ ha)⟩
theorem Evo.write' {ρ : Rho} {H : Hp} {p : Addr} {o : HO} (h : p ∈ ρ.refs) (hp : p ∉ ρ.hid) : Evo ρ H ρ (upd H p o) :=
  ⟨⟨⟨[], by simp⟩, fun a u e n => ⟨by rw [upd_ne (fun z => n.1 (by rw [z]; exact h))]; exact e, n⟩⟩, rfl, fun a ha => upd_ne fun z => hp (z ▸ ha)⟩
section
variable {K : PySem.W.Frag} {ρ ρ' : Rho} {H H' : Hp}
theorem Ext.ix (e : Ext ρ H ρ' H') {n : Nat} {a : Addr} (h : ρ.refs[n]? = some a) : ρ'.refs[n]? = some a := by
  obtain ⟨m, e⟩ := e.pre
  rw [e, List.getElem?_append_left (List.getElem?_eq_some_iff.mp h).1]
  exact h
theorem Ext.rd (e : Ext ρ H ρ' H') {a : Addr} {u : HO} (h : Rd H a u) (n : ρ.out a) : Rd H' a u ∧ ρ'.out a := by
  rcases h with h | ⟨o, h⟩
  · exact ⟨.inl (e.keep a _ h n).1, (e.keep a _ h n).2⟩
  · exact ⟨.inr ⟨o, (e.keep a _ h n).1⟩, (e.keep a _ h n).2⟩
theorem TupAt.evo (e : Ext ρ H ρ' H') {a : Addr} {vs : List V} (h : TupAt ρ H a vs) : TupAt ρ' H' a vs := e.keep a _ h.1 h.2
theorem LstAt.evo (e : Ext ρ H ρ' H') {a : Addr} {vs : List V} (h : LstAt ρ H a vs) : LstAt ρ' H' a vs := e.keep a _ h.1 h.2
theorem ScrAt.evo (e : Ext ρ H ρ' H') {a : Addr} {vs : List V} (h : ScrAt K ρ H a vs) : ScrAt K ρ' H' a vs := h.elim (fun h => .inl (e.rd h.1 h.2)) .inr
mutual
theorem Rep.ext (e : Ext ρ H ρ' H') : ∀ {v : V} {w : W}, Rep K ρ H v w → Rep K ρ' H' v w
  | _, _, .non => .non
  | _, _, .bl => .bl
  | _, _, .int => .int
  | _, _, .str h => .str h
  | _, _, .ktup h r => .ktup h (RepL.ext e r)
  | _, _, .scr h => .scr (h.evo e)
  | _, _, .tup h r => .tup (h.evo e) (RepL.ext e r)
  | _, _, .lst h r => .lst (h.evo e) (RepL.ext e r)
  | _, _, .ref h => .ref (e.ix h)
theorem RepL.ext (e : Ext ρ H ρ' H') : ∀ {vs : List V} {ws : List W}, RepL K ρ H vs ws → RepL K ρ' H' vs ws
  | _, _, .nil => .nil
  | _, _, .cons h r => .cons (Rep.ext e h) (RepL.ext e r)
end
theorem Rep.evo (e : Evo ρ H ρ' H') {v : V} {w : W} (h : Rep K ρ H v w) : Rep K ρ' H' v w := h.ext e.toExt
theorem RepL.evo (e : Evo ρ H ρ' H') {v : List V} {w : List W} (h : RepL K ρ H v w) : RepL K ρ' H' v w := h.ext e.toExt
end

section
variable {K : PySem.W.Frag} {ρ ρ' : Rho} {H H' : Hp}
theorem RepL.length : ∀ {vs : List V} {ws : List W}, RepL K ρ H vs ws → vs.length = ws.length
  | _, _, .nil => rfl
  | _, _, .cons _ r => by rw [List.length_cons, List.length_cons, RepL.length r]
theorem RepL.get : ∀ {vs : List V} {ws : List W} {i : Nat} {w : W}, RepL K ρ H vs ws → ws[i]? = some w → ∃ v, vs[i]? = some v ∧ Rep K ρ H v w
  | _, _, _, _, .nil, e => by simp at e
  | _, _, 0, _, .cons r _, e => by simp at e; subst e; exact ⟨_, rfl, r⟩
  | _, _, i + 1, w, .cons _ t, e => by
    obtain ⟨v, h1, h2⟩ := RepL.get (i := i) (w := w) t (by simpa using e)
    exact ⟨v, by simpa using h1, h2⟩
theorem RepL.getV : ∀ {vs : List V} {ws : List W} {i : Nat} {v : V}, RepL K ρ H vs ws → vs[i]? = some v → ∃ w, ws[i]? = some w ∧ Rep K ρ H v w
  | _, _, _, _, .nil, e => by simp at e
  | _, _, 0, _, .cons r _, e => by simp at e; subst e; exact ⟨_, rfl, r⟩
  | _, _, i + 1, v, .cons _ t, e => by
    obtain ⟨w, h1, h2⟩ := RepL.getV (i := i) (v := v) t (by simpa using e)
    exact ⟨w, by simpa using h1, h2⟩
theorem RepL.append : ∀ {vs vs' : List V} {ws ws' : List W}, RepL K ρ H vs ws → RepL K ρ H vs' ws' → RepL K ρ H (vs ++ vs') (ws ++ ws')
  | _, _, _, _, .nil, s => s
  | _, _, _, _, .cons r t, s => .cons r (RepL.append t s)
theorem RepL.take : ∀ {vs : List V} {ws : List W} (n : Nat), RepL K ρ H vs ws → RepL K ρ H (vs.take n) (ws.take n)
  | _, _, 0, _ => .nil
  | _, _, _ + 1, .nil => .nil
  | _, _, n + 1, .cons r t => .cons r (RepL.take n t)
theorem RepL.drop : ∀ {vs : List V} {ws : List W} (n : Nat), RepL K ρ H vs ws → RepL K ρ H (vs.drop n) (ws.drop n)
  | _, _, 0, r => r
  | _, _, _ + 1, .nil => .nil
  | _, _, n + 1, .cons _ t => RepL.drop n t
theorem RepL.set {v : V} {w : W} (r : Rep K ρ H v w) : ∀ {vs : List V} {ws : List W} (i : Nat), RepL K ρ H vs ws → RepL K ρ H (vs.set i v) (ws.set i w)
  | _, _, _, .nil => .nil
  | _, _, 0, .cons _ t => .cons r t
  | _, _, i + 1, .cons q t => .cons q (RepL.set r i t)
theorem RepL.reverse : ∀ {vs : List V} {ws : List W}, RepL K ρ H vs ws → RepL K ρ H vs.reverse ws.reverse
  | _, _, .nil => .nil
  | _, _, .cons r t => by
    rw [List.reverse_cons, List.reverse_cons]
    exact (RepL.reverse t).append (.cons r .nil)
theorem RepL.dropLast {vs : List V} {ws : List W} (h : RepL K ρ H vs ws) : RepL K ρ H vs.dropLast ws.dropLast := by
  rw [List.dropLast_eq_take, List.dropLast_eq_take, h.length]
  exact h.take _
theorem RepL.ints : ∀ ns : List Int, RepL K ρ H (ns.map V.int) (ns.map W.int)
  | [] => .nil
  | _ :: r => .cons .int (RepL.ints r)
theorem RepL.strs : ∀ ns : List Str, (∀ x ∈ ns, okS x = true) → RepL K ρ H (ns.map V.str) (ns.map W.str)
  | [], _ => .nil
  | x :: r, h => .cons (.str (h x (by simp))) (RepL.strs r fun y hy => h y (List.mem_cons_of_mem _ hy))
theorem RepL.ofStrs : ∀ {vs : List V} {ss : List Str}, RepL K ρ H vs (ss.map W.str) → vs = ss.map V.str
  | [], [], _ => rfl
  | _, _ :: r, .cons (.str _) t => by rw [List.map_cons, RepL.ofStrs t]
theorem RepL.ofInts : ∀ {vs : List V} {ss : List Int}, RepL K ρ H vs (ss.map W.int) → vs = ss.map V.int
  | [], [], _ => rfl
  | _, _ :: r, .cons .int t => by rw [List.map_cons, RepL.ofInts t]
theorem RepL.ofBls : ∀ {vs : List V} {ss : List Bool}, RepL K ρ H vs (ss.map W.bl) → vs = ss.map V.bl
  | [], [], _ => rfl
  | _, _ :: r, .cons .bl t => by rw [List.map_cons, RepL.ofBls t]
end

/-! ### slots and store -/
def StRep (K : PySem.W.Frag) (ρ : Rho) (H : Hp) (σ : L2.St) (τ : ASt) : Prop := σ.length = τ.length ∧ ∀ (i : Nat) (w : W), τ[i]? = some (some w) → ∃ v, σ[i]? = some (some v) ∧ Rep K ρ H v w
def ObRep (K : PySem.W.Frag) (ρ : Rho) (H : Hp) : Ob → Addr → Prop
  | .lst ws, a => ∃ vs, H a = some (.lst vs) ∧ RepL K ρ H vs ws
  | .dK kvs, a => ∃ kws : List (Key × V), H a = some (.dK kws) ∧ kws.map (·.1) = kvs.map (·.1) ∧ RepL K ρ H (kws.map (·.2)) (kvs.map (·.2))
  | .dT kvs, a => ∃ kws : List (List Key × V), H a = some (.dT kws) ∧ kws.map (·.1) = kvs.map (·.1) ∧ RepL K ρ H (kws.map (·.2)) (kvs.map (·.2))
structure Rel (K : PySem.W.Frag) (ρ : Rho) (S : Store) (H : Hp) : Prop where
  len : ρ.refs.length = S.length
  nd : ρ.refs.Nodup
  obs : ∀ (n : Nat) (o : Ob) (a : Addr), S[n]? = some o → ρ.refs[n]? = some a → ObRep K ρ H o a
  hidT : ∀ a ∈ ρ.hid, ∃ o, H a = some o
  hidN : ∀ a ∈ ρ.hid, a ∉ ρ.refs
section
variable {K : PySem.W.Frag} {ρ ρ' : Rho} {H H' : Hp} {S : Store} {σ : L2.St} {τ : ASt}
theorem StRep.ext (e : Ext ρ H ρ' H') (h : StRep K ρ H σ τ) : StRep K ρ' H' σ τ := ⟨h.1, fun i w q => let ⟨v, e1, r⟩ := h.2 i w q; ⟨v, e1, r.ext e⟩⟩
theorem StRep.evo (e : Evo ρ H ρ' H') (h : StRep K ρ H σ τ) : StRep K ρ' H' σ τ := h.ext e.toExt
theorem StRep.set {v : V} {w : W} (h : StRep K ρ H σ τ) (r : Rep K ρ H v w) (i : Nat) : StRep K ρ H (σ.set i (some v)) (τ.set i (some w)) := by
  refine ⟨by simp [h.1], fun j x q => ?_⟩
  by_cases e : j = i
  · subst e
    by_cases hj : j < τ.length
    · rw [List.getElem?_set_self hj] at q
      cases q
      exact ⟨v, by rw [List.getElem?_set_self (by rw [h.1]; exact hj)], r⟩
    · rw [List.getElem?_eq_none (by simpa using hj)] at q
      cases q
  · rw [List.getElem?_set_ne (Ne.symm e)] at q
    obtain ⟨u, e1, r1⟩ := h.2 j x q
    exact ⟨u, by rw [List.getElem?_set_ne (Ne.symm e)]; exact e1, r1⟩
theorem ObRep.trk {o : Ob} {a : Addr} (h : ObRep K ρ H o a) : ∃ u, H a = some u := by
  cases o with
  | lst ws => obtain ⟨_, e, _⟩ := h; exact ⟨_, e⟩
  | dK kvs => obtain ⟨_, e, _⟩ := h; exact ⟨_, e⟩
  | dT kvs => obtain ⟨_, e, _⟩ := h; exact ⟨_, e⟩
theorem ObRep.ext (e : Ext ρ H ρ' H') {o : Ob} {a : Addr} (ha : H' a = H a) (h : ObRep K ρ H o a) : ObRep K ρ' H' o a := by
  cases o with
  | lst ws => obtain ⟨vs, q, r⟩ := h; exact ⟨vs, ha.trans q, r.ext e⟩
  | dK kvs => obtain ⟨vs, q, k, r⟩ := h; exact ⟨vs, ha.trans q, k, r.ext e⟩
  | dT kvs => obtain ⟨vs, q, k, r⟩ := h; exact ⟨vs, ha.trans q, k, r.ext e⟩
theorem ObRep.evo (e : Evo ρ H ρ' H') {o : Ob} {a : Addr} (ha : H' a = H a) (h : ObRep K ρ H o a) : ObRep K ρ' H' o a := h.ext e.toExt ha
theorem Rel.at (h : Rel K ρ S H) {n : Nat} {o : Ob} (e : S[n]? = some o) : ∃ a, ρ.refs[n]? = some a ∧ ObRep K ρ H o a := by
  have hn : n < ρ.refs.length := by rw [h.len]; exact (List.getElem?_eq_some_iff.mp e).1
  exact ⟨ρ.refs[n], List.getElem?_eq_getElem hn, h.obs n o _ e (List.getElem?_eq_getElem hn)⟩
theorem Rel.trk (h : Rel K ρ S H) {a : Addr} (m : a ∈ ρ.refs) : ∃ u, H a = some u := by
  obtain ⟨n, hn, e⟩ := List.getElem_of_mem m
  have hn' : n < S.length := by rw [← h.len]; exact hn
  exact (h.obs n S[n] a (List.getElem?_eq_getElem hn') (by rw [List.getElem?_eq_getElem hn, e])).trk
theorem Rel.notin (h : Rel K ρ S H) {a : Addr} (e : H a = none) : ρ.out a := by
  refine ⟨fun m => ?_, fun m => ?_⟩
  · obtain ⟨u, q⟩ := h.trk m
    rw [e] at q
    cases q
  · obtain ⟨u, q⟩ := h.hidT a m
    rw [e] at q
    cases q
theorem Evo.fresh {o : HO} {p : Addr} (r : Rel K ρ S H) (h : H p = none) : Evo ρ H ρ (upd H p o) := Evo.fresh' h (r.notin h).2
theorem Evo.alloc {o : HO} {p : Addr} (r : Rel K ρ S H) (h : H p = none) : Evo ρ H (ρ.add p) (upd H p o) := Evo.alloc' h (r.notin h).2
theorem Evo.write {o : HO} {p : Addr} (r : Rel K ρ S H) (h : p ∈ ρ.refs) : Evo ρ H ρ (upd H p o) := Evo.write' h fun z => r.hidN p z h
theorem Rel.fresh (h : Rel K ρ S H) {p : Addr} {o : HO} (e : H p = none) : Rel K ρ S (upd H p o) :=
  ⟨h.len, h.nd, fun n ob a q1 q2 => (h.obs n ob a q1 q2).evo (Evo.fresh h e) (upd_ne fun z => (h.notin e).1 (z ▸ List.mem_of_getElem? q2)),
    fun a ha => let ⟨u, q⟩ := h.hidT a ha; ⟨u, by rw [upd_ne (ne_of_none q e)]; exact q⟩, h.hidN⟩
theorem Rel.alloc (h : Rel K ρ S H) {p : Addr} {o : HO} {ob : Ob} (e : H p = none) (r : ObRep K (ρ.add p) (upd H p o) ob p) : Rel K (ρ.add p) (S ++ [ob]) (upd H p o) := by
  refine ⟨by show (ρ.refs ++ [p]).length = _; simp [h.len], ?_, fun n ob' a q1 q2 => ?_, fun a ha => let ⟨u, q⟩ := h.hidT a ha; ⟨u, by rw [upd_ne (ne_of_none q e)]; exact q⟩, fun a ha => ?_⟩
  · show (ρ.refs ++ [p]).Nodup
    rw [List.nodup_append]
    refine ⟨h.nd, by simp, fun a ha b hb => ?_⟩
    have : b = p := by simpa using hb
    subst this
    exact fun z => (h.notin e).1 (z ▸ ha)
  · have q2 : (ρ.refs ++ [p])[n]? = some a := q2
    by_cases hn : n < S.length
    · rw [List.getElem?_append_left hn] at q1
      rw [List.getElem?_append_left (by rw [h.len]; exact hn)] at q2
      exact (h.obs n ob' a q1 q2).evo (Evo.alloc h e) (upd_ne fun z => (h.notin e).1 (z ▸ List.mem_of_getElem? q2))
    · rw [List.getElem?_append_right (by omega)] at q1
      rw [List.getElem?_append_right (by rw [h.len]; omega)] at q2
      have e0 : n - S.length = 0 := by
        have := (List.getElem?_eq_some_iff.mp q1).1
        simpa using this
      rw [e0] at q1
      rw [h.len, e0] at q2
      cases q1
      cases q2
      exact r
  · show a ∉ ρ.refs ++ [p]
    simp only [List.mem_append, List.mem_singleton]
    rintro (z | z)
    · exact h.hidN a ha z
    · subst z
      exact (h.notin e).2 ha
theorem Rel.write (h : Rel K ρ S H) {n : Nat} {a : Addr} {o : HO} {ob : Ob} (ha : ρ.refs[n]? = some a) (r : ObRep K ρ (upd H a o) ob a) : Rel K ρ (S.set n ob) (upd H a o) := by
  have hn : n < S.length := by rw [← h.len]; exact (List.getElem?_eq_some_iff.mp ha).1
  have hm := List.mem_of_getElem? ha
  refine ⟨by simp [h.len], h.nd, fun m ob' b q1 q2 => ?_, fun b hb => let ⟨u, q⟩ := h.hidT b hb; ⟨u, by rw [upd_ne (fun z => h.hidN b hb (by rw [z]; exact hm))]; exact q⟩, h.hidN⟩
  by_cases e : m = n
  · subst e
    rw [List.getElem?_set_self hn] at q1
    cases q1
    rw [ha] at q2
    cases q2
    exact r
  · rw [List.getElem?_set_ne (Ne.symm e)] at q1
    have hab : b ≠ a := fun z => by
      subst z
      obtain ⟨h1, e1⟩ := List.getElem?_eq_some_iff.mp ha
      obtain ⟨h2, e2⟩ := List.getElem?_eq_some_iff.mp q2
      exact e ((List.getElem_inj h.nd).mp (e2.trans e1.symm))
    exact (h.obs m ob' b q1 q2).evo (Evo.write h hm) (upd_ne hab)
end

/-! ### a hidden object -/
def Rho.hide (ρ : Rho) (D : Addr) : Rho := { ρ with hid := D :: ρ.hid }
section
variable {K : PySem.W.Frag} {ρ ρ' : Rho} {H H' : Hp} {S : Store} {D : Addr} {o : HO}
theorem Ext.hide (e : H D = none) : Ext ρ H (ρ.hide D) (upd H D o) := ⟨⟨[], by simp [Rho.hide]⟩, fun a u h n => ⟨by rw [upd_ne (ne_of_none h e)]; exact h, n.1, by
  show a ∉ D :: ρ.hid
  simp only [List.mem_cons, not_or]
  exact ⟨ne_of_none h e, n.2⟩⟩⟩
theorem Rel.ext (r : Rel K ρ S H) (e : Ext ρ H ρ' H') (hr : ρ'.refs = ρ.refs) (ho : ∀ a ∈ ρ.refs, H' a = H a) (h1 : ∀ a ∈ ρ'.hid, ∃ o, H' a = some o) (h2 : ∀ a ∈ ρ'.hid, a ∉ ρ'.refs) : Rel K ρ' S H' :=
  ⟨by rw [hr]; exact r.len, by rw [hr]; exact r.nd, fun n ob a q1 q2 => (r.obs n ob a q1 (by rw [← hr]; exact q2)).ext e (ho a (by rw [← hr]; exact List.mem_of_getElem? q2)), h1, h2⟩
theorem Rel.hide (r : Rel K ρ S H) (e : H D = none) : Rel K (ρ.hide D) S (upd H D o) := by
  refine r.ext (Ext.hide e) rfl (fun a ha => upd_ne fun z => (r.notin e).1 (z ▸ ha)) (fun a ha => ?_) fun a ha => ?_
  · rcases List.mem_cons.mp ha with z | ha
    · rw [z]; exact ⟨_, upd_same⟩
    · obtain ⟨u, q⟩ := r.hidT a ha
      exact ⟨u, by rw [upd_ne (ne_of_none q e)]; exact q⟩
  · rcases List.mem_cons.mp ha with z | ha
    · rw [z]; exact (r.notin e).1
    · exact r.hidN a ha
/-- the hidden one is written -/
theorem Ext.hset (h : D ∈ ρ.hid) : Ext ρ H ρ (upd H D o) := ⟨⟨[], by simp⟩, fun a u q n => ⟨by rw [upd_ne fun z => n.2 (by rw [z]; exact h)]; exact q, n⟩⟩
theorem Rel.hset (r : Rel K ρ S H) (h : D ∈ ρ.hid) : Rel K ρ S (upd H D o) := r.ext (Ext.hset h) rfl (fun a ha => upd_ne fun z => r.hidN D h (z ▸ ha)) (fun a ha => by
  by_cases z : a = D
  · rw [z]; exact ⟨_, upd_same⟩
  · rw [upd_ne z]; exact r.hidT a ha) r.hidN
/-- it is hidden no more -/
theorem Ext.unhide (h : ρ.hid = D :: ρ'.hid) (hr : ρ'.refs = ρ.refs) : Ext ρ H ρ' H := ⟨⟨[], by simp [hr]⟩, fun a u q n => ⟨q, by rw [hr]; exact n.1, fun z => n.2 (by rw [h]; exact List.mem_cons_of_mem _ z)⟩⟩
theorem Rel.unhide (r : Rel K ρ S H) (h : ρ.hid = D :: ρ'.hid) (hr : ρ'.refs = ρ.refs) : Rel K ρ' S H := r.ext (Ext.unhide h hr) hr (fun _ _ => rfl) (fun a ha => r.hidT a (by rw [h]; exact List.mem_cons_of_mem _ ha)) fun a ha => by
  rw [hr]; exact r.hidN a (by rw [h]; exact List.mem_cons_of_mem _ ha)
end

/-! ### results -/
def XRep (K : PySem.W.Frag) (ρ : Rho) (H : Hp) (x : XV) (cls : Value) (d : Option Addr) : Prop :=
  cls = x.cls ∧ ∃ dd fs, d = some dd ∧ H dd = some (.xd fs) ∧ ρ.out dd ∧ fs.map (·.1) = x.fs.map (·.1) ∧ RepL K ρ H (fs.map (·.2)) (x.fs.map (·.2))
def ROk {α : Type} (K : PySem.W.Frag) (ρ : Rho) (H : Hp) (R : α → Rho → Store → Hp → Prop) (Xc : XV → Rho → Store → Hp → Prop) : Res α → Prop
  | .ok a S => ∀ ρ' H', Evo ρ H ρ' H' → Rel K ρ' S H' → R a ρ' S H'
  | .exc x S => ∀ ρ' H', Evo ρ H ρ' H' → Rel K ρ' S H' → Xc x ρ' S H'
  | .fail => False
section
variable {α β : Type} {K : PySem.W.Frag} {ρ ρ' : Rho} {H H' : Hp} {R : α → Rho → Store → Hp → Prop} {R' : β → Rho → Store → Hp → Prop} {Xc Xc' : XV → Rho → Store → Hp → Prop}
theorem ROk.start {r : Res α} (e : Evo ρ H ρ' H') (h : ROk K ρ H R Xc r) : ROk K ρ' H' R Xc r := by
  cases r with
  | ok a S => exact fun ρ2 H2 e2 q => h ρ2 H2 (e.trans e2) q
  | exc x S => exact fun ρ2 H2 e2 q => h ρ2 H2 (e.trans e2) q
  | fail => exact h
theorem ROk.split {r : Res α} {k : α → Store → Res β} (h : ROk K ρ H R' Xc (r.bind k)) : ROk K ρ H (fun a ρ1 S1 H1 => ROk K ρ1 H1 R' Xc (k a S1)) Xc r := by
  cases r with
  | ok a S => exact fun ρ2 H2 e2 q => ROk.start e2 h
  | exc x S => exact h
  | fail => exact h
theorem ROk.imp {r : Res α} {R2 : α → Rho → Store → Hp → Prop} (h : ROk K ρ H R Xc r) (hr : ∀ a ρ' S' H', Evo ρ H ρ' H' → Rel K ρ' S' H' → R a ρ' S' H' → R2 a ρ' S' H') (hx : ∀ x ρ' S' H', Evo ρ H ρ' H' → Rel K ρ' S' H' → Xc x ρ' S' H' → Xc' x ρ' S' H') : ROk K ρ H R2 Xc' r := by
  cases r with
  | ok a S => exact fun ρ2 H2 e2 q => hr _ _ _ _ e2 q (h ρ2 H2 e2 q)
  | exc x S => exact fun ρ2 H2 e2 q => hx _ _ _ _ e2 q (h ρ2 H2 e2 q)
  | fail => exact h
theorem ROk.ok_now {a : α} {S : Store} (h : ROk K ρ H R Xc (.ok a S)) (r : Rel K ρ S H) : R a ρ S H := h ρ H Evo.refl r
end

def RQ (K : PySem.W.Frag) (Q : VK) : W → Rho → Store → Hp → Prop := fun w ρ _ H => ∀ v, Rep K ρ H v w → Q v H
def RX (K : PySem.W.Frag) (Wx : WX) (σ : L2.St) : XV → Rho → Store → Hp → Prop := fun x ρ _ H => ∀ cls d, XRep K ρ H x cls d → Wx cls d σ H
def RdE (K : PySem.W.Frag) (Wx : WX) (f : FE) : TE := fun σ H Q => ∃ ρ S τ, Rel K ρ S H ∧ StRep K ρ H σ τ ∧ ROk K ρ H (RQ K Q) (RX K Wx σ) (f τ S)
def RdT (K : PySem.W.Frag) (Wx : WX) (f : FT) : TT := fun σ H Q => ∃ ρ S τ, Rel K ρ S H ∧ StRep K ρ H σ τ ∧ ROk K ρ H (fun b _ _ H' => Q b H') (RX K Wx σ) (f τ S)
def RdA (K : PySem.W.Frag) (Wx : WX) (f : FA) : TA := fun σ H Q => ∃ ρ S τ, Rel K ρ S H ∧ StRep K ρ H σ τ ∧ ROk K ρ H (fun ws ρ' _ H' => ∀ vs, RepL K ρ' H' vs ws → Q vs H') (RX K Wx σ) (f τ S)
def AE (X : Cx) (Wx : WX) (e : Expr) (f : FE) : Prop := PE X e (RdE X.K Wx f)
def AT (X : Cx) (Wx : WX) (e : Expr) (f : FT) : Prop := PT X e (RdT X.K Wx f)
def AA (X : Cx) (Wx : WX) (es : List Expr) (f : FA) : Prop := PA X es (RdA X.K Wx f)
theorem peM {X : Cx} {e : Expr} {t t' : TE} (h : PE X e t) (m : ∀ σ H Q, t' σ H Q → t σ H Q) : PE X e t' := ⟨fun pins s σ H Q I q => h.run pins s σ H Q I (m σ H Q q)⟩
theorem ptM {X : Cx} {e : Expr} {t t' : TT} (h : PT X e t) (m : ∀ σ H Q, t' σ H Q → t σ H Q) : PT X e t' := ⟨fun pins s σ H Q I q => h.run pins s σ H Q I (m σ H Q q)⟩
theorem paM {X : Cx} {e : List Expr} {t t' : TA} (h : PA X e t) (m : ∀ σ H Q, t' σ H Q → t σ H Q) : PA X e t' := ⟨fun p pins s σ H Q I q => h.run p pins s σ H Q I (m σ H Q q)⟩
theorem psM {X : Cx} {e : Stmt} {t t' : TS} (h : PS X e t) (m : ∀ D σ H, t' D σ H → t D σ H) : PS X e t' := ⟨fun pins s σ H D I q => h.run pins s σ H D I (m D σ H q)⟩
theorem pssM {X : Cx} {e : List Stmt} {t t' : TS} (h : PSs X e t) (m : ∀ D σ H, t' D σ H → t D σ H) : PSs X e t' := ⟨fun pins s σ H D I q => h.run pins s σ H D I (m D σ H q)⟩
theorem pgM {X : Cx} {e : Expr} {t t' : TG} (h : PG X e t) (m : ∀ v σ H Q, t' v σ H Q → t v σ H Q) : PG X e t' := ⟨fun pins s σ H v u Q I r q => h.run pins s σ H v u Q I r (m v σ H Q q)⟩
theorem piM {X : Cx} {tg e : Expr} {t t' : TI} (h : PI X tg e t) (m : ∀ σ H Q, t' σ H Q → t σ H Q) : PI X tg e t' := ⟨fun pins s σ H R I q => h.run pins s σ H R I (m σ H R q)⟩
theorem opM {X : Cx} {f : Value → Value → Sem Value} {r r' : R2} (h : OpR X f r) (m : ∀ x y H Q, r' x y H Q → r x y H Q) : OpR X f r' :=
  fun pins s σ H x y v u Q I rx ry q => h pins s σ H x y v u Q I rx ry (m x y H Q q)
/-- a part of an expression, from where we stand -/
theorem RdE.mk {K : PySem.W.Frag} {Wx : WX} {f : FE} {σ : L2.St} {H : Hp} {Q : VK} {ρ : Rho} {S : Store} {τ : ASt} {R : W → Rho → Store → Hp → Prop} (h1 : Rel K ρ S H) (h2 : StRep K ρ H σ τ) (h3 : ROk K ρ H R (RX K Wx σ) (f τ S))
    (hq : ∀ w ρ' S' H' v, Evo ρ H ρ' H' → Rel K ρ' S' H' → StRep K ρ' H' σ τ → Rep K ρ' H' v w → R w ρ' S' H' → Q v H') : RdE K Wx f σ H Q :=
  ⟨ρ, S, τ, h1, h2, h3.imp (fun a ρ' S' H' e r q v rv => hq a ρ' S' H' v e r (h2.evo e) rv q) fun _ _ _ _ _ _ q => q⟩
theorem RdT.mk {K : PySem.W.Frag} {Wx : WX} {f : FT} {σ : L2.St} {H : Hp} {Q : Bool → Hp → Prop} {ρ : Rho} {S : Store} {τ : ASt} {R : Bool → Rho → Store → Hp → Prop} (h1 : Rel K ρ S H) (h2 : StRep K ρ H σ τ) (h3 : ROk K ρ H R (RX K Wx σ) (f τ S))
    (hq : ∀ w ρ' S' H', Evo ρ H ρ' H' → Rel K ρ' S' H' → StRep K ρ' H' σ τ → R w ρ' S' H' → Q w H') : RdT K Wx f σ H Q :=
  ⟨ρ, S, τ, h1, h2, h3.imp (fun a ρ' S' H' e r q => hq a ρ' S' H' e r (h2.evo e) q) fun _ _ _ _ _ _ q => q⟩
theorem RdA.mk {K : PySem.W.Frag} {Wx : WX} {f : FA} {σ : L2.St} {H : Hp} {Q : List V → Hp → Prop} {ρ : Rho} {S : Store} {τ : ASt} {R : List W → Rho → Store → Hp → Prop} (h1 : Rel K ρ S H) (h2 : StRep K ρ H σ τ) (h3 : ROk K ρ H R (RX K Wx σ) (f τ S))
    (hq : ∀ ws ρ' S' H' vs, Evo ρ H ρ' H' → Rel K ρ' S' H' → StRep K ρ' H' σ τ → RepL K ρ' H' vs ws → R ws ρ' S' H' → Q vs H') : RdA K Wx f σ H Q :=
  ⟨ρ, S, τ, h1, h2, h3.imp (fun a ρ' S' H' e r q v rv => hq a ρ' S' H' v e r (h2.evo e) rv q) fun _ _ _ _ _ _ q => q⟩

/-! ### names, constants -/
def mVar (i : Nat) : FE := fun τ S => match τ[i]? with
  | some (some w) => .ok w S
  | _ => .fail
def mC (w : W) : FE := fun _ S => .ok w S
section
variable {X : Cx} {Wx : WX}
theorem av (i : Nat) {x : Str} {pos : Pos} (hN : X.N[i]? = some x := by rfl) (hv : Vis X.env.scope x := by first | exact Or.inl rfl | exact Or.inr (Or.inl rfl) | exact Or.inr (Or.inr rfl)) (hd : (x == ("__debug__" : Str)) = false := by decide)
    (hcd : (x == ("__classdict__" : Str)) = false := by decide) : AE X Wx (.Name x pos) (mVar i) := peM (pe_var hN hv hd hcd) fun σ H Q ⟨ρ, S, τ, h1, h2, h3⟩ => by
  unfold mVar at h3
  cases e : τ[i]? with
  | none => rw [e] at h3; exact h3.elim
  | some o =>
    cases o with
    | none => rw [e] at h3; exact h3.elim
    | some w =>
      rw [e] at h3
      obtain ⟨v, e1, r⟩ := h2.2 i w e
      exact ⟨v, e1, h3.ok_now h1 v r⟩
theorem aC {e : Expr} {v : V} {w : W} (h : PE X e (tC v)) (r : ∀ ρ H, Rep X.K ρ H v w) : AE X Wx e (mC w) := peM h fun σ H Q ⟨ρ, S, τ, h1, h2, h3⟩ => h3.ok_now h1 v (r ρ H)
theorem a_int {i : Int} {j pos} : AE X Wx (.Constant (.int i) j pos) (mC (.int i)) := aC pe_int fun _ _ => .int
theorem a_str {i : Str} {j pos} (h : okS i = true := by decide +kernel) : AE X Wx (.Constant (.str i) j pos) (mC (.str i)) := aC pe_str fun _ _ => .str h
theorem a_bl {i : Bool} {j pos} : AE X Wx (.Constant (.bool i) j pos) (mC (.bl i)) := aC pe_bl fun _ _ => .bl
theorem a_non {j pos} : AE X Wx (.Constant .none j pos) (mC .non) := aC pe_non fun _ _ => .non
/-! ### operators -/
def rdOp (K : PySem.W.Frag) (o : W → W → Store → Res W) : R2 := fun v u H Q => ∃ ρ S x y, Rel K ρ S H ∧ Rep K ρ H v x ∧ Rep K ρ H u y ∧ ROk K ρ H (RQ K Q) (fun _ _ _ _ => False) (o x y S)
def OpA (X : Cx) (f : Value → Value → Sem Value) (o : W → W → Store → Res W) : Prop := OpR X f (rdOp X.K o)
/-- an operator raises nothing -/
def noX {α : Type} : Res α → Res α
  | .exc _ _ => .fail
  | r => r
def mBin (o : W → W → Store → Res W) (fa fb : FE) : FE := fun τ S => (fa τ S).bind fun x S1 => (fb τ S1).bind fun y S2 => noX (o x y S2)
theorem noX_ok {α : Type} {K : PySem.W.Frag} {ρ : Rho} {H : Hp} {R : α → Rho → Store → Hp → Prop} {Xc Xc' : XV → Rho → Store → Hp → Prop} {r : Res α} (h : ROk K ρ H R Xc (noX r)) : ROk K ρ H R Xc' r := by
  cases r with
  | ok a S => exact h
  | exc x S => exact h.elim
  | fail => exact h
theorem mBin_go {o : W → W → Store → Res W} {r : R2} (hr : ∀ x y H Q, rdOp X.K o x y H Q → r x y H Q) {fa fb : FE} {σ : L2.St} {H : Hp} {Q : VK} (h : RdE X.K Wx (mBin o fa fb) σ H Q) : tOp r (RdE X.K Wx fa) (RdE X.K Wx fb) σ H Q := by
  obtain ⟨ρ, S, τ, h1, h2, h3⟩ := h
  refine RdE.mk h1 h2 h3.split fun x ρ1 S1 H1 v e1 r1 s1 rv q1 => ?_
  refine RdE.mk r1 s1 q1.split fun y ρ2 S2 H2 u e2 r2 s2 ru q2 => ?_
  exact hr _ _ _ _ ⟨ρ2, S2, x, y, r2, rv.evo e2, ru, noX_ok q2⟩
variable {a b : Expr} {fa fb : FE}
theorem a_op {op : Operator} {o : W → W → Store → Res W} {pos : Pos} (ho : OpA X (binaryOp op) o) (ha : AE X Wx a fa) (hb : AE X Wx b fb) : AE X Wx (.BinOp a op b pos) (mBin o fa fb) :=
  peM (pe_op ho ha hb) fun _ _ _ h => mBin_go (fun _ _ _ _ q => q) h
theorem a_cmp {op : CmpOp} {o : W → W → Store → Res W} {pos : Pos} (ho : OpA X (compareOp op) o) (ha : AE X Wx a fa) (hb : AE X Wx b fb) (hm : behindInMarks op b = false) : AE X Wx (.Compare a [op] [b] pos) (mBin o fa fb) :=
  peM (pe_cmpR ho ha hb hm) fun _ _ _ h => mBin_go (fun _ _ _ _ q => q) h
end
end Eng
namespace Eng
open PySem PySem.Spec PyProof.Rows L2

/-! ### lists and tuples that are read -/
def seqL (S : Store) : W → Option (List W)
  | .lst xs => some xs
  | .ref n => match S[n]? with
    | some (.lst xs) => some xs
    | _ => none
  | .scr ns => some (ns.map W.int)
  | _ => none
/-- .. those of the run's own -/
def seqM (S : Store) : W → Option (List W)
  | .lst xs => some xs
  | .ref n => match S[n]? with
    | some (.lst xs) => some xs
    | _ => none
  | _ => none
def seqT : W → Option (List W)
  | .tup xs => some xs
  | .ktup xs => some xs
  | _ => none
section
variable {K : PySem.W.Frag} {ρ : Rho} {S : Store} {H : Hp} {v : V} {w : W} {ws : List W}
theorem KT.sq {a : Addr} {vs : List V} (h : KT K a vs) : SqT K H a vs := .inr h
theorem ref_lst (r : Rel K ρ S H) {n : Nat} {a : Addr} (ha : ρ.refs[n]? = some a) (e : S[n]? = some (.lst ws)) : ∃ vs, H a = some (.lst vs) ∧ RepL K ρ H vs ws := r.obs n _ a e ha
theorem seqM_at (r : Rel K ρ S H) (h : Rep K ρ H v w) (e : seqM S w = some ws) : ∃ a vs, v = .ref a ∧ H a = some (.lst vs) ∧ RepL K ρ H vs ws := by
  cases h with
  | lst hl hr => cases e; exact ⟨_, _, rfl, hl.1, hr⟩
  | ref hn =>
    rename_i a n
    unfold seqM at e
    cases q : S[n]? with
    | none => simp only [q] at e; cases e
    | some o =>
      simp only [q] at e
      cases o with
      | lst xs =>
        cases e
        obtain ⟨vs, h1, h2⟩ := ref_lst r hn q
        exact ⟨_, _, rfl, h1, h2⟩
      | dK kvs => cases e
      | dT kvs => cases e
  | _ => cases e
theorem seqL_sq (r : Rel K ρ S H) (h : Rep K ρ H v w) (e : seqL S w = some ws) : ∃ a vs, v = .ref a ∧ SqL K H a vs ∧ RepL K ρ H vs ws := by
  cases h with
  | scr hs => cases e; exact ⟨_, _, rfl, hs.sq, RepL.ints _⟩
  | lst hl hr => cases e; exact ⟨_, _, rfl, hl.sq, hr⟩
  | ref hn =>
    obtain ⟨a, vs, h1, h2, h3⟩ := seqM_at (w := .ref _) r (.ref hn) e
    exact ⟨a, vs, h1, .inl (.inl h2), h3⟩
  | _ => cases e
theorem seqT_sq (h : Rep K ρ H v w) (e : seqT w = some ws) : ∃ a vs, v = .ref a ∧ SqT K H a vs ∧ RepL K ρ H vs ws := by
  cases h with
  | tup hl hr => cases e; exact ⟨_, _, rfl, hl.sq, hr⟩
  | ktup hl hr => cases e; exact ⟨_, _, rfl, hl.sq, hr⟩
  | _ => cases e
end

/-! ### data -/
mutual
def dat : W → Option PyData
  | .non => some .none
  | .bl b => some (.bool b)
  | .int i => some (.int i)
  | .str x => some (.str x)
  | .tup xs => (datL xs).map .tuple
  | .ktup xs => (datL xs).map .tuple
  | .lst xs => (datL xs).map .list
  | .scr ns => some (.list (ns.map .int))
  | .ref _ => none
def datL : List W → Option (List PyData)
  | [] => some []
  | x :: xs => match dat x, datL xs with
    | some d, some ds => some (d :: ds)
    | _, _ => none
end
def datS (S : Store) : W → Option PyData
  | .ref n => match S[n]? with
    | some (.lst xs) => (datL xs).map .list
    | _ => none
  | w => dat w
theorem okS_lay {x : Str} (h : okS x = true) : PyData.canLay0 (.str x) = true := by
  unfold okS at h
  simp only [Bool.and_eq_true] at h
  simpa [PyData.canLay0, PyData.strOk] using h.1
theorem okS_len {x : Str} (h : okS x = true) : x.length ≤ sizeLine := by
  unfold okS at h
  simp only [Bool.and_eq_true, decide_eq_true_eq] at h
  exact h.2
theorem okS_cps {x : Str} (h : okS x = true) : x.cps.all (· < 0x110000) = true := by
  unfold okS at h
  simp only [Bool.and_eq_true] at h
  exact h.1
theorem okS_mk {x : Str} (h1 : x.cps.all (· < 0x110000) = true) (h2 : x.length ≤ sizeLine) : okS x = true := by
  unfold okS
  rw [h1, decide_eq_true h2]
  rfl
section
variable {K : PySem.W.Frag} {ρ : Rho} {H : Hp}
theorem ints_dp (H : Hp) : ∀ ns : List Int, DpAll K H (ns.map V.int) (ns.map PyData.int)
  | [] => .nil
  | _ :: r => .cons (.int _) (ints_dp H r)
theorem ints_lay : ∀ ns : List Int, PyData.canLayAll0 (ns.map PyData.int) = true
  | [] => by simp [PyData.canLayAll0]
  | _ :: r => by simp [PyData.canLayAll0, PyData.canLay0, ints_lay r]
mutual
theorem dat_dp : ∀ {w : W} {v : V} {d : PyData}, Rep K ρ H v w → dat w = some d → Dp K H v d ∧ d.canLay0 = true
  | .non, _, _, .non, e => by simp only [dat, Option.some.injEq] at e; subst e; exact ⟨.non, by simp [PyData.canLay0]⟩
  | .bl _, _, _, .bl, e => by simp only [dat, Option.some.injEq] at e; subst e; exact ⟨.bl _, by simp [PyData.canLay0]⟩
  | .int _, _, _, .int, e => by simp only [dat, Option.some.injEq] at e; subst e; exact ⟨.int _, by simp [PyData.canLay0]⟩
  | .str _, _, _, .str h, e => by simp only [dat, Option.some.injEq] at e; subst e; exact ⟨.str _, okS_lay h⟩
  | .tup xs, _, d, .tup h r, e => by
    simp only [dat, Option.map_eq_some_iff] at e
    obtain ⟨ds, e1, rfl⟩ := e
    obtain ⟨h1, h2⟩ := datL_dp r e1
    exact ⟨.tup h.sq h1, by simpa [PyData.canLay0] using h2⟩
  | .ktup xs, _, d, .ktup h r, e => by
    simp only [dat, Option.map_eq_some_iff] at e
    obtain ⟨ds, e1, rfl⟩ := e
    obtain ⟨h1, h2⟩ := datL_dp r e1
    exact ⟨.tup (KT.sq h) h1, by simpa [PyData.canLay0] using h2⟩
  | .lst xs, _, d, .lst h r, e => by
    simp only [dat, Option.map_eq_some_iff] at e
    obtain ⟨ds, e1, rfl⟩ := e
    obtain ⟨h1, h2⟩ := datL_dp r e1
    exact ⟨.lst h.sq h1, by simpa [PyData.canLay0] using h2⟩
  | .scr ns, _, d, .scr h, e => by
    simp only [dat, Option.some.injEq] at e
    subst e
    exact ⟨.lst h.sq (ints_dp H ns), by simpa [PyData.canLay0] using ints_lay ns⟩
  | .ref _, _, _, .ref _, e => by simp [dat] at e
theorem datL_dp : ∀ {ws : List W} {vs : List V} {ds : List PyData}, RepL K ρ H vs ws → datL ws = some ds → DpAll K H vs ds ∧ PyData.canLayAll0 ds = true
  | [], _, _, .nil, e => by simp only [datL, Option.some.injEq] at e; subst e; exact ⟨.nil, by simp [PyData.canLayAll0]⟩
  | x :: xs, _, _, .cons r t, e => by
    simp only [datL] at e
    cases q1 : dat x with
    | none => rw [q1] at e; cases e
    | some d =>
      cases q2 : datL xs with
      | none => rw [q1, q2] at e; cases e
      | some ds =>
        rw [q1, q2] at e
        simp only [Option.some.injEq] at e
        subst e
        obtain ⟨a1, a2⟩ := dat_dp r q1
        obtain ⟨b1, b2⟩ := datL_dp t q2
        exact ⟨.cons a1 b1, by simp [PyData.canLayAll0, a2, b2]⟩
end
theorem datS_dp {S : Store} {w : W} {v : V} {d : PyData} (rl : Rel K ρ S H) (r : Rep K ρ H v w) (e : datS S w = some d) : Dp K H v d ∧ d.canLay0 = true := by
  cases r with
  | ref hn =>
    rename_i a n
    unfold datS at e
    cases q : S[n]? with
    | none => simp only [q] at e; cases e
    | some o =>
      cases o with
      | lst xs =>
        simp only [q, Option.map_eq_some_iff] at e
        obtain ⟨ds, e1, rfl⟩ := e
        obtain ⟨vs, h1, h2⟩ := ref_lst rl hn q
        obtain ⟨h3, h4⟩ := datL_dp h2 e1
        exact ⟨.lst (.inl (.inl h1)) h3, by simpa [PyData.canLay0] using h4⟩
      | dK kvs => simp only [q] at e; cases e
      | dT kvs => simp only [q] at e; cases e
  | non => exact dat_dp (ρ := ρ) .non e
  | bl => exact dat_dp (ρ := ρ) .bl e
  | int => exact dat_dp (ρ := ρ) .int e
  | str h => exact dat_dp (ρ := ρ) (.str h) e
  | tup h r => exact dat_dp (.tup h r) e
  | ktup h r => exact dat_dp (.ktup h r) e
  | lst h r => exact dat_dp (.lst h r) e
  | scr h => exact dat_dp (.scr h) e
end

/-! ### == and !=, in and not in -/
def eqS (S : Store) (x y : W) : Option Bool := match datS S x, datS S y with
  | some d, some e => if min d.depth e.depth ≤ 64 then some (d.eqv e) else none
  | _, _ => none
def oEq (x y : W) (S : Store) : Res W := match eqS S x y with
  | some b => .ok (.bl b) S
  | none => .fail
def oNe (x y : W) (S : Store) : Res W := match eqS S x y with
  | some b => .ok (.bl (!b)) S
  | none => .fail
theorem eqS_some {S : Store} {x y : W} {b : Bool} (h : eqS S x y = some b) : ∃ d e, datS S x = some d ∧ datS S y = some e ∧ min d.depth e.depth ≤ 64 ∧ d.eqv e = b := by
  unfold eqS at h
  cases q1 : datS S x with
  | none => simp only [q1] at h; cases h
  | some d =>
    cases q2 : datS S y with
    | none => simp only [q1, q2] at h; cases h
    | some e =>
      simp only [q1, q2] at h
      by_cases hm : min d.depth e.depth ≤ 64
      · rw [if_pos hm] at h
        exact ⟨d, e, rfl, rfl, hm, Option.some.inj h⟩
      · rw [if_neg hm] at h; cases h
section
variable {X : Cx}
theorem op_Eq (hu : X.A.units + 64 < cLine) : OpA X (compareOp .Eq) oEq := by
  intro pins s σ H x y v u Q I rx ry h
  obtain ⟨ρ, S, a, b, hr, ra, rb, q⟩ := h
  unfold oEq at q
  cases e : eqS S a b with
  | none => rw [e] at q; exact q.elim
  | some k =>
    rw [e] at q
    obtain ⟨d, e', h1, h2, h3, h4⟩ := eqS_some e
    obtain ⟨p1, p2⟩ := datS_dp hr ra h1
    obtain ⟨p3, p4⟩ := datS_dp hr rb h2
    obtain ⟨as, r1⟩ := Dp.reads I d x v p1 rx
    obtain ⟨bs, r2⟩ := Dp.reads I e' y u p3 ry
    exact SeqAt.compareEq_reads r1 r2 p2 p4 (by omega) ⟨.bl _, H, I, rfl, by rw [h4]; exact q.ok_now hr _ .bl⟩
theorem op_Ne (hu : X.A.units + 64 < cLine) : OpA X (compareOp .NotEq) oNe := by
  intro pins s σ H x y v u Q I rx ry h
  obtain ⟨ρ, S, a, b, hr, ra, rb, q⟩ := h
  unfold oNe at q
  cases e : eqS S a b with
  | none => rw [e] at q; exact q.elim
  | some k =>
    rw [e] at q
    obtain ⟨d, e', h1, h2, h3, h4⟩ := eqS_some e
    obtain ⟨p1, p2⟩ := datS_dp hr ra h1
    obtain ⟨p3, p4⟩ := datS_dp hr rb h2
    obtain ⟨as, r1⟩ := Dp.reads I d x v p1 rx
    obtain ⟨bs, r2⟩ := Dp.reads I e' y u p3 ry
    exact SeqAt.compareNe_reads r1 r2 p2 p4 (by omega) ⟨.bl _, H, I, rfl, by rw [h4]; exact q.ok_now hr _ .bl⟩
end
/-- a key of a dict -/
def keyW : W → Option Key
  | .int i => some (.inl i)
  | .str x => some (.inr x)
  | _ => none
def keysW : List W → Option (List Key)
  | [] => some []
  | x :: xs => match keyW x, keysW xs with
    | some k, some ks => some (k :: ks)
    | _, _ => none
def valW {κ : Type} [DecidableEq κ] (kvs : List (κ × W)) (k : κ) : Option W := (kvs.find? fun kv => decide (kv.1 = k)).map (·.2)
def putW {κ : Type} [DecidableEq κ] (kvs : List (κ × W)) (k : κ) (v : W) : List (κ × W) :=
  if kvs.any (fun kv => decide (kv.1 = k)) then kvs.map fun kv => if kv.1 = k then (kv.1, v) else kv else kvs ++ [(k, v)]
/-- what a dict holds at a key: none, if it is no dict, or no key of its kind -/
def lookS (S : Store) (d k : W) : Option (Option W) := match d with
  | .ref n => match S[n]? with
    | some (.dK kvs) => (keyW k).map (valW kvs)
    | some (.dT kvs) => match k with
      | .tup xs => (keysW xs).map (valW kvs)
      | _ => none
    | _ => none
  | _ => none
def inS (S : Store) (x y : W) : Option Bool := match y with
  | .str t => match x with
    | .str s => some (!(Builtin.Str.occurrences t s 0 t.length 1).isEmpty)
    | _ => none
  | y => match lookS S y x with
    | some o => some o.isSome
    | none => match datS S x, datS S y with
      | some d, some (.list ds) => if d.depth ≤ 64 then some (ds.any fun z => z.eqv d) else none
      | some d, some (.tuple ds) => if d.depth ≤ 64 then some (ds.any fun z => z.eqv d) else none
      | _, _ => none
def oIn (x y : W) (S : Store) : Res W := match inS S x y with
  | some b => .ok (.bl b) S
  | none => .fail
def oNotIn (x y : W) (S : Store) : Res W := match inS S x y with
  | some b => .ok (.bl (!b)) S
  | none => .fail
section
variable {K : PySem.W.Frag} {ρ : Rho} {S : Store} {H : Hp} {v : V} {w : W} {ws : List W}
theorem keyW_rep {k : Key} (h : Rep K ρ H v w) (e : keyW w = some k) : v = kV k := by
  cases h with
  | int => cases e; rfl
  | str _ => cases e; rfl
  | _ => cases e
theorem keysW_rep : ∀ {ws : List W} {vs : List V} {ks : List Key}, RepL K ρ H vs ws → keysW ws = some ks → vs = ks.map kV
  | [], _, _, .nil, e => by cases e; rfl
  | x :: xs, _, _, .cons r t, e => by
    simp only [keysW] at e
    cases q1 : keyW x with
    | none => rw [q1] at e; cases e
    | some d =>
      cases q2 : keysW xs with
      | none => rw [q1, q2] at e; cases e
      | some ds =>
        rw [q1, q2] at e
        simp only [Option.some.injEq] at e
        subst e
        rw [keyW_rep r q1, keysW_rep t q2, List.map_cons]
theorem valW_rep {κ : Type} [DecidableEq κ] (k : κ) : ∀ {kws : List (κ × V)} {kvs : List (κ × W)}, kws.map (·.1) = kvs.map (·.1) → RepL K ρ H (kws.map (·.2)) (kvs.map (·.2)) →
    (valW kvs k = none ∧ valV kws k = none) ∨ ∃ w v, valW kvs k = some w ∧ valV kws k = some v ∧ Rep K ρ H v w
  | [], [], _, _ => .inl ⟨rfl, rfl⟩
  | [], _ :: _, e, _ => by simp at e
  | _ :: _, [], e, _ => by simp at e
  | p :: ps, q :: qs, e, r => by
    simp only [List.map_cons, List.cons.injEq] at e
    cases r with
    | cons r1 r2 =>
      by_cases hk : q.1 = k
      · refine .inr ⟨q.2, p.2, ?_, ?_, r1⟩
        · simp [valW, List.find?_cons, hk]
        · simp [valV, List.find?_cons, e.1, hk]
      · have e1 : valW (q :: qs) k = valW qs k := by simp [valW, List.find?_cons, hk]
        have e2 : valV (p :: ps) k = valV ps k := by simp [valV, List.find?_cons, e.1, hk]
        rw [e1, e2]
        exact valW_rep k e.2 r2
theorem lookS_get {d k : W} {dv kv : V} {o : Option W} (rl : Rel K ρ S H) (rd : Rep K ρ H dv d) (rk : Rep K ρ H kv k) (e : lookS S d k = some o) :
    ∃ a, dv = .ref a ∧ ((o = none ∧ DGet H a kv none) ∨ ∃ w v, o = some w ∧ DGet H a kv (some v) ∧ Rep K ρ H v w) := by
  cases rd with
  | ref hn =>
    rename_i a n
    refine ⟨a, rfl, ?_⟩
    unfold lookS at e
    cases q : S[n]? with
    | none => simp only [q] at e; cases e
    | some ob =>
      cases ob with
      | lst xs => simp only [q] at e; cases e
      | dK kvs =>
        simp only [q, Option.map_eq_some_iff] at e
        obtain ⟨key, hk, rfl⟩ := e
        obtain ⟨kws, h1, h2, h3⟩ : ObRep K ρ H (.dK kvs) a := rl.obs n _ a q hn
        rw [keyW_rep rk hk]
        have g := DGet.k (k := key) h1
        rcases valW_rep key h2 h3 with ⟨z1, z2⟩ | ⟨w, v, z1, z2, r⟩
        · rw [z2] at g
          exact .inl ⟨z1, g⟩
        · rw [z2] at g
          exact .inr ⟨w, v, z1, g, r⟩
      | dT kvs =>
        cases rk with
        | tup ht hr =>
          simp only [q, Option.map_eq_some_iff] at e
          obtain ⟨key, hk, rfl⟩ := e
          obtain ⟨kws, h1, h2, h3⟩ : ObRep K ρ H (.dT kvs) a := rl.obs n _ a q hn
          have e3 := keysW_rep hr hk
          subst e3
          have g := DGet.t h1 ht.1
          rcases valW_rep key h2 h3 with ⟨z1, z2⟩ | ⟨w, v, z1, z2, r⟩
          · rw [z2] at g
            exact .inl ⟨z1, g⟩
          · rw [z2] at g
            exact .inr ⟨w, v, z1, g, r⟩
        | _ => simp only [q] at e; cases e
  | _ => cases e
end
theorem inS_cases {S : Store} {x y : W} {b : Bool} (h : inS S x y = some b) :
    (∃ s t, x = .str s ∧ y = .str t ∧ b = !(Builtin.Str.occurrences t s 0 t.length 1).isEmpty) ∨ (∃ o, lookS S y x = some o ∧ b = o.isSome) ∨
      ∃ d ds, datS S x = some d ∧ (datS S y = some (.list ds) ∨ datS S y = some (.tuple ds)) ∧ d.depth ≤ 64 ∧ b = ds.any fun z => z.eqv d := by
  cases hy : lookS S y x with
  | some o =>
    unfold inS at h
    cases y with
    | str t => simp [lookS] at hy
    | _ => simp only [hy] at h; exact .inr (.inl ⟨o, rfl, (Option.some.inj h).symm⟩)
  | none =>
    by_cases hs : ∃ t, y = .str t
    · obtain ⟨t, rfl⟩ := hs
      cases x with
      | str s => unfold inS at h; exact .inl ⟨s, t, rfl, rfl, (Option.some.inj h).symm⟩
      | _ => unfold inS at h; cases h
    · have e : inS S x y = (match datS S x, datS S y with
          | some d, some (.list ds) => if d.depth ≤ 64 then some (ds.any fun z => z.eqv d) else none
          | some d, some (.tuple ds) => if d.depth ≤ 64 then some (ds.any fun z => z.eqv d) else none
          | _, _ => none) := by
        unfold inS
        cases y with
        | str t => exact absurd ⟨t, rfl⟩ hs
        | _ => simp only [hy]
      rw [e] at h
      refine .inr (.inr ?_)
      cases q1 : datS S x with
      | none => simp only [q1] at h; cases h
      | some d =>
        cases q2 : datS S y with
        | none => simp only [q1, q2] at h; cases h
        | some z =>
          cases z with
          | list ds =>
            simp only [q1, q2] at h
            by_cases hd : d.depth ≤ 64
            · rw [if_pos hd] at h; exact ⟨d, ds, rfl, .inl rfl, hd, (Option.some.inj h).symm⟩
            · rw [if_neg hd] at h; cases h
          | tuple ds =>
            simp only [q1, q2] at h
            by_cases hd : d.depth ≤ 64
            · rw [if_pos hd] at h; exact ⟨d, ds, rfl, .inr rfl, hd, (Option.some.inj h).symm⟩
            · rw [if_neg hd] at h; cases h
          | _ => simp only [q1, q2] at h; cases h
section
variable {X : Cx}
theorem op_In (hu : X.A.units + 66 < cLine) : OpA X (compareOp .In) oIn := by
  intro pins s σ H x y v u Q I rx ry h
  obtain ⟨ρ, S, a, b, hr, ra, rb, q⟩ := h
  unfold oIn at q
  cases e : inS S a b with
  | none => rw [e] at q; exact q.elim
  | some k =>
    rw [e] at q
    have q' : Q (.bl k) H := q.ok_now hr _ .bl
    rcases inS_cases e with ⟨sa, ta, rfl, rfl, rfl⟩ | ⟨o, hl, rfl⟩ | ⟨d, ds, h1, h2, h3, rfl⟩
    · cases ra
      cases rb
      exact op_in_str pins s σ H _ _ v u Q I rx ry ⟨sa, ta, rfl, rfl, q'⟩
    · obtain ⟨ad, rfl, g⟩ := lookS_get hr rb ra hl
      cases ry
      rcases g with ⟨rfl, g⟩ | ⟨wv, vv, rfl, g, _⟩
      · exact d_in (by omega) I g rx fun s3 I3 => ⟨.bl false, H, I3, rfl, q'⟩
      · exact d_in (by omega) I g rx fun s3 I3 => ⟨.bl true, H, I3, rfl, q'⟩
    · obtain ⟨p1, p2⟩ := datS_dp hr ra h1
      obtain ⟨as, r1⟩ := Dp.reads I d x v p1 rx
      rcases h2 with h2 | h2
      · obtain ⟨p3, p4⟩ := datS_dp hr rb h2
        obtain ⟨bs, r2⟩ := Dp.reads I _ y u p3 ry
        exact SeqAt.in_list_reads r2 r1 (by simpa [PyData.canLay0] using p4) p2 (by omega) ⟨.bl _, H, I, rfl, q'⟩
      · obtain ⟨p3, p4⟩ := datS_dp hr rb h2
        obtain ⟨bs, r2⟩ := Dp.reads I _ y u p3 ry
        exact SeqAt.in_tuple_reads r2 r1 (by simpa [PyData.canLay0] using p4) p2 (by omega) ⟨.bl _, H, I, rfl, q'⟩
theorem op_NotIn (hu : X.A.units + 66 < cLine) : OpA X (compareOp .NotIn) oNotIn := by
  intro pins s σ H x y v u Q I rx ry h
  obtain ⟨ρ, S, a, b, hr, ra, rb, q⟩ := h
  unfold oNotIn at q
  cases e : inS S a b with
  | none => rw [e] at q; exact q.elim
  | some k =>
    rw [e] at q
    have q' : Q (.bl (!k)) H := q.ok_now hr _ .bl
    rcases inS_cases e with ⟨sa, ta, rfl, rfl, rfl⟩ | ⟨o, hl, rfl⟩ | ⟨d, ds, h1, h2, h3, rfl⟩
    · cases ra
      cases rb
      exact op_notin_str pins s σ H _ _ v u Q I rx ry ⟨sa, ta, rfl, rfl, q'⟩
    · obtain ⟨ad, rfl, g⟩ := lookS_get hr rb ra hl
      cases ry
      rcases g with ⟨rfl, g⟩ | ⟨wv, vv, rfl, g, _⟩
      · exact d_notIn (by omega) I g rx fun s3 I3 => ⟨.bl true, H, I3, rfl, q'⟩
      · exact d_notIn (by omega) I g rx fun s3 I3 => ⟨.bl false, H, I3, rfl, q'⟩
    · obtain ⟨p1, p2⟩ := datS_dp hr ra h1
      obtain ⟨as, r1⟩ := Dp.reads I d x v p1 rx
      rcases h2 with h2 | h2
      · obtain ⟨p3, p4⟩ := datS_dp hr rb h2
        obtain ⟨bs, r2⟩ := Dp.reads I _ y u p3 ry
        exact SeqAt.notIn_list_reads r2 r1 (by simpa [PyData.canLay0] using p4) p2 (by omega) ⟨.bl _, H, I, rfl, q'⟩
      · obtain ⟨p3, p4⟩ := datS_dp hr rb h2
        obtain ⟨bs, r2⟩ := Dp.reads I _ y u p3 ry
        exact SeqAt.notIn_tuple_reads r2 r1 (by simpa [PyData.canLay0] using p4) p2 (by omega) ⟨.bl _, H, I, rfl, q'⟩
end
end Eng
namespace Eng
open PySem PySem.Spec PyProof.Rows L2

/-! ### new objects -/
section
variable {K : PySem.W.Frag} {ρ : Rho} {S : Store} {H : Hp} {p : Addr} {vs : List V} {ws : List W}
theorem new_tup (rl : Rel K ρ S H) (hp : H p = none) (r : RepL K ρ H vs ws) : Rep K ρ (upd H p (.tup vs)) (.ref p) (.tup ws) := .tup ⟨upd_same, rl.notin hp⟩ (r.evo (Evo.fresh rl hp))
theorem new_lst (rl : Rel K ρ S H) (hp : H p = none) (r : RepL K ρ H vs ws) : Rep K ρ (upd H p (.lst vs)) (.ref p) (.lst ws) := .lst ⟨upd_same, rl.notin hp⟩ (r.evo (Evo.fresh rl hp))
theorem ROk.tup {Q : VK} {Xc : XV → Rho → Store → Hp → Prop} (q : ROk K ρ H (RQ K Q) Xc (.ok (.tup ws) S)) (rl : Rel K ρ S H) (r : RepL K ρ H vs ws) (hp : H p = none) : Q (.ref p) (upd H p (.tup vs)) :=
  q ρ _ (Evo.fresh rl hp) (rl.fresh hp) _ (new_tup rl hp r)
theorem ROk.lst {Q : VK} {Xc : XV → Rho → Store → Hp → Prop} (q : ROk K ρ H (RQ K Q) Xc (.ok (.lst ws) S)) (rl : Rel K ρ S H) (r : RepL K ρ H vs ws) (hp : H p = none) : Q (.ref p) (upd H p (.lst vs)) :=
  q ρ _ (Evo.fresh rl hp) (rl.fresh hp) _ (new_lst rl hp r)
end
theorem okS_append {a b : Str} (h1 : okS a = true) (h2 : okS b = true) (hl : a.length + b.length ≤ sizeLine) : okS (a ++ b) = true := by
  refine okS_mk ?_ ?_
  · show ((a.cps ++ b.cps).all fun x => decide (x < 0x110000)) = true
    rw [Array.all_append, okS_cps h1, okS_cps h2]
    rfl
  · show (a.cps ++ b.cps).size ≤ sizeLine
    rw [Array.size_append]
    exact hl

/-! ### + - * // % ** -/
def oAdd (x y : W) (S : Store) : Res W := match x, y with
  | .int i, .int j => .ok (.int (i + j)) S
  | .str a, .str b => if a.length + b.length ≤ sizeLine then .ok (.str (a ++ b)) S else .fail
  | .tup xs, .tup ys => if xs.length + ys.length ≤ sizeLine then .ok (.tup (xs ++ ys)) S else .fail
  | x, y => match seqM S x, seqM S y with
    | some xs, some ys => if xs.length + ys.length ≤ sizeLine then .ok (.lst (xs ++ ys)) S else .fail
    | _, _ => .fail
def oSub (x y : W) (S : Store) : Res W := match x, y with
  | .int i, .int j => .ok (.int (i - j)) S
  | _, _ => .fail
def oMul (x y : W) (S : Store) : Res W := match x, y with
  | .int i, .int j => if (-(2 ^ 64) < i ∧ i < 2 ^ 64) ∨ (-(2 ^ 64) < j ∧ j < 2 ^ 64) then .ok (.int (i * j)) S else .fail
  | .tup xs, .int k => if xs ≠ [] ∧ 2 ≤ k ∧ k ≤ 1000 ∧ xs.length ≤ 1000 then .ok (.tup (List.replicate k.toNat xs).flatten) S else .fail
  | _, _ => .fail
def oMod (x y : W) (S : Store) : Res W := match x, y with
  | .int i, .int j => if 0 < j then .ok (.int (i % j)) S else .fail
  | _, _ => .fail
def oFdiv (x y : W) (S : Store) : Res W := match x, y with
  | .int i, .int j => if 0 < j ∧ j < 1073741824 then .ok (.int (i / j)) S else .fail
  | _, _ => .fail
def oPow (x y : W) (S : Store) : Res W := match x, y with
  | .int i, .int j => if 0 ≤ j ∧ j ≤ 1000000 ∧ i.natAbs < 2 ^ 64 then .ok (.int (i ^ j.toNat)) S else .fail
  | _, _ => .fail
theorem RepL.flat {K : PySem.W.Frag} {ρ : Rho} {H : Hp} {vs : List V} {ws : List W} (r : RepL K ρ H vs ws) : ∀ n : Nat, RepL K ρ H (List.replicate n vs).flatten (List.replicate n ws).flatten
  | 0 => .nil
  | n + 1 => by
    rw [List.replicate_succ, List.replicate_succ, List.flatten_cons, List.flatten_cons]
    exact r.append (RepL.flat r n)
theorem RepL.ne_nil {K : PySem.W.Frag} {ρ : Rho} {H : Hp} {vs : List V} {ws : List W} (r : RepL K ρ H vs ws) (h : ws ≠ []) : vs ≠ [] := fun e => by
  subst e
  cases r
  exact h rfl
theorem RepL.nil_of {K : PySem.W.Frag} {ρ : Rho} {H : Hp} {ws : List W} (r : RepL K ρ H [] ws) : ws = [] := by cases r; rfl
section
variable {X : Cx}
/-- two ints, from two ints -/
theorem opInt {f : Value → Value → Sem Value} {C : Int → Int → Prop} {g : Int → Int → V} {o : W → W → Store → Res W} (h : OpR X f (rI C g))
    (ho : ∀ x y S, (∃ i j w, x = .int i ∧ y = .int j ∧ C i j ∧ o x y S = .ok w S ∧ ∀ K ρ H, Rep K ρ H (g i j) w) ∨ o x y S = .fail) : OpA X f o := by
  intro pins s σ H x y v u Q I rx ry q
  obtain ⟨ρ, S, a, b, hr, ra, rb, q⟩ := q
  rcases ho a b S with ⟨i, j, w, rfl, rfl, hc, e, rw_⟩ | e
  · rw [e] at q
    cases ra
    cases rb
    exact h pins s σ H _ _ v u Q I rx ry ⟨i, j, rfl, rfl, hc, q.ok_now hr _ (rw_ _ _ _)⟩
  · rw [e] at q
    exact q.elim
theorem opInt0 {f : Value → Value → Sem Value} {g : Int → Int → V} {o : W → W → Store → Res W} (h : OpR X f (rI0 g))
    (ho : ∀ x y S, (∃ i j w, x = .int i ∧ y = .int j ∧ o x y S = .ok w S ∧ ∀ K ρ H, Rep K ρ H (g i j) w) ∨ o x y S = .fail) : OpA X f o := by
  intro pins s σ H x y v u Q I rx ry q
  obtain ⟨ρ, S, a, b, hr, ra, rb, q⟩ := q
  rcases ho a b S with ⟨i, j, w, rfl, rfl, e, rw_⟩ | e
  · rw [e] at q
    cases ra
    cases rb
    exact h pins s σ H _ _ v u Q I rx ry ⟨i, j, rfl, rfl, q.ok_now hr _ (rw_ _ _ _)⟩
  · rw [e] at q
    exact q.elim
theorem op_Sub : OpA X (binaryOp .Sub) oSub := opInt0 op_sub fun x y S => by
  unfold oSub
  split
  · exact .inl ⟨_, _, _, rfl, rfl, rfl, fun _ _ _ => .int⟩
  · exact .inr rfl
theorem op_Mod : OpA X (binaryOp .Mod) oMod := opInt op_mod fun x y S => by
  unfold oMod
  split
  · split
    · exact .inl ⟨_, _, _, rfl, rfl, by assumption, rfl, fun _ _ _ => .int⟩
    · exact .inr rfl
  · exact .inr rfl
theorem op_Fdiv : OpA X (binaryOp .FloorDiv) oFdiv := opInt op_fdiv fun x y S => by
  unfold oFdiv
  split
  · split
    · exact .inl ⟨_, _, _, rfl, rfl, by assumption, rfl, fun _ _ _ => .int⟩
    · exact .inr rfl
  · exact .inr rfl
theorem op_Pow : OpA X (binaryOp .Pow) oPow := opInt op_pow fun x y S => by
  unfold oPow
  split
  · split
    · exact .inl ⟨_, _, _, rfl, rfl, by assumption, rfl, fun _ _ _ => .int⟩
    · exact .inr rfl
  · exact .inr rfl
theorem op_Mul : OpA X (binaryOp .Mult) oMul := by
  intro pins s σ H x y v u Q I rx ry q
  obtain ⟨ρ, S, a, b, hr, ra, rb, q⟩ := q
  unfold oMul at q
  split at q
  · split at q
    · rename_i hc
      cases ra
      cases rb
      exact op_mul pins s σ H _ _ v u Q I rx ry ⟨_, _, rfl, rfl, hc, q.ok_now hr _ .int⟩
    · exact q.elim
  · split at q
    · rename_i hc
      cases rb
      cases ra with
      | tup ht hl => exact op_repT pins s σ H _ _ v u Q I rx ry ⟨_, _, _, rfl, rfl, ht.sq, hl.ne_nil hc.1, hc.2.1, hc.2.2.1, by rw [hl.length]; exact hc.2.2.2, fun p hp => q.tup hr (hl.flat _) hp⟩
    · exact q.elim
  · exact q.elim
theorem op_Add : OpA X (binaryOp .Add) oAdd := by
  intro pins s σ H x y v u Q I rx ry q
  obtain ⟨ρ, S, a, b, hr, ra, rb, q⟩ := q
  unfold oAdd at q
  split at q
  · cases ra
    cases rb
    exact op_add pins s σ H _ _ v u Q I rx ry ⟨_, _, rfl, rfl, q.ok_now hr _ .int⟩
  · split at q
    · rename_i hc
      cases ra with
      | str h1 =>
        cases rb with
        | str h2 => exact op_add_str pins s σ H _ _ v u Q I rx ry ⟨_, _, rfl, rfl, hc, q.ok_now hr _ (.str (okS_append h1 h2 hc))⟩
    · exact q.elim
  · split at q
    · rename_i hc
      cases ra with
      | tup h1 l1 =>
        cases rb with
        | tup h2 l2 =>
          refine op_catA pins s σ H _ _ v u Q I rx ry ⟨_, _, _, _, rfl, rfl, h1.sq, h2.sq, by rw [l1.length, l2.length]; exact hc, fun e => ?_, fun _ e => ?_, fun _ _ p hp => q.tup hr (l1.append l2) hp⟩
          · subst e
            have e1 := l1.nil_of
            subst e1
            exact q.ok_now hr _ (.tup h2 l2)
          · subst e
            have e1 := l2.nil_of
            subst e1
            have q' := q.ok_now hr
            rw [List.append_nil] at q'
            exact q' _ (.tup h1 l1)
    · exact q.elim
  · split at q
    · rename_i xs ys e1 e2
      split at q
      · rename_i hc
        obtain ⟨a1, v1, rfl, t1, l1⟩ := seqM_at hr ra e1
        obtain ⟨a2, v2, rfl, t2, l2⟩ := seqM_at hr rb e2
        exact op_cat pins s σ H _ _ v u Q I rx ry ⟨_, _, _, _, rfl, rfl, t1, t2, by rw [l1.length, l2.length]; exact hc, fun p hp => q.lst hr (l1.append l2) hp⟩
      · exact q.elim
    · exact q.elim
/-! ### < <= > >= is -/
def cpsLt (a b : Str) : Bool := decide (a.cps.toList < b.cps.toList)
def oLt (x y : W) (S : Store) : Res W := match x, y with
  | .int i, .int j => .ok (.bl (decide (i < j))) S
  | .str a, .str b => .ok (.bl (decide (a.cps.toList < b.cps.toList))) S
  | _, _ => .fail
def oLe (x y : W) (S : Store) : Res W := match x, y with
  | .int i, .int j => .ok (.bl (decide (i ≤ j))) S
  | _, _ => .fail
def oGt (x y : W) (S : Store) : Res W := match x, y with
  | .int i, .int j => .ok (.bl (decide (j < i))) S
  | _, _ => .fail
def oGe (x y : W) (S : Store) : Res W := match x, y with
  | .int i, .int j => .ok (.bl (decide (j ≤ i))) S
  | _, _ => .fail
def W.isN : W → Bool
  | .non => true
  | _ => false
def oIs (x y : W) (S : Store) : Res W := match y with
  | .non => .ok (.bl x.isN) S
  | _ => .fail
def oIsNot (x y : W) (S : Store) : Res W := match y with
  | .non => .ok (.bl (!x.isN)) S
  | _ => .fail
theorem isN_rep {K : PySem.W.Frag} {ρ : Rho} {H : Hp} {v : V} {w : W} (r : Rep K ρ H v w) : decide (v = .non) = w.isN := by
  cases r <;> rfl
theorem op_Lt : OpA X (compareOp .Lt) oLt := by
  intro pins s σ H x y v u Q I rx ry q
  obtain ⟨ρ, S, a, b, hr, ra, rb, q⟩ := q
  unfold oLt at q
  split at q
  · cases ra
    cases rb
    exact op_lt pins s σ H _ _ v u Q I rx ry ⟨_, _, rfl, rfl, q.ok_now hr _ .bl⟩
  · cases ra
    cases rb
    exact op_lt_str pins s σ H _ _ v u Q I rx ry ⟨_, _, rfl, rfl, q.ok_now hr _ .bl⟩
  · exact q.elim
theorem op_Le : OpA X (compareOp .LtE) oLe := opInt0 op_le fun x y S => by
  unfold oLe
  split
  · exact .inl ⟨_, _, _, rfl, rfl, rfl, fun _ _ _ => .bl⟩
  · exact .inr rfl
theorem op_Gt : OpA X (compareOp .Gt) oGt := opInt0 op_gt fun x y S => by
  unfold oGt
  split
  · exact .inl ⟨_, _, _, rfl, rfl, rfl, fun _ _ _ => .bl⟩
  · exact .inr rfl
theorem op_Ge : OpA X (compareOp .GtE) oGe := opInt0 op_ge fun x y S => by
  unfold oGe
  split
  · exact .inl ⟨_, _, _, rfl, rfl, rfl, fun _ _ _ => .bl⟩
  · exact .inr rfl
theorem op_Is : OpA X (compareOp .Is) oIs := by
  intro pins s σ H x y v u Q I rx ry q
  obtain ⟨ρ, S, a, b, hr, ra, rb, q⟩ := q
  unfold oIs at q
  split at q
  · cases rb
    exact op_isN pins s σ H _ _ v u Q I rx ry ⟨rfl, by rw [isN_rep ra]; exact q.ok_now hr _ .bl⟩
  · exact q.elim
theorem op_IsNot : OpA X (compareOp .IsNot) oIsNot := by
  intro pins s σ H x y v u Q I rx ry q
  obtain ⟨ρ, S, a, b, hr, ra, rb, q⟩ := q
  unfold oIsNot at q
  split at q
  · cases rb
    exact op_notN pins s σ H _ _ v u Q I rx ry ⟨rfl, by rw [isN_rep ra]; exact q.ok_now hr _ .bl⟩
  · exact q.elim

/-! ### a[i] -/
def oIx (x y : W) (S : Store) : Res W := match lookS S x y with
  | some (some w) => .ok w S
  | some none => .fail
  | none => match y with
    | .int i => match x with
      | .str z => match atI z.cps.toList i with
        | some c => .ok (.str ⟨#[c]⟩) S
        | none => .fail
      | x => match seqL S x with
        | some xs => match atI xs i with
          | some w => .ok w S
          | none => .fail
        | none => match seqT x with
          | some xs => match atI xs i with
            | some w => .ok w S
            | none => .fail
          | none => .fail
    | _ => .fail
theorem atI_rep {K : PySem.W.Frag} {ρ : Rho} {H : Hp} {vs : List V} {ws : List W} {i : Int} {w : W} (r : RepL K ρ H vs ws) (e : atI ws i = some w) : ∃ v, atI vs i = some v ∧ Rep K ρ H v w := by
  unfold atI at e ⊢
  rw [r.length]
  cases q : ixN ws.length i with
  | none => rw [q] at e; cases e
  | some j => rw [q] at e; exact r.get e
theorem atI_mem {α : Type} {xs : List α} {i : Int} {c : α} (e : atI xs i = some c) : c ∈ xs := by
  unfold atI at e
  cases q2 : ixN xs.length i with
  | none => rw [q2] at e; cases e
  | some j => rw [q2] at e; exact List.mem_of_getElem? e
theorem ix_dict (hu : X.A.units + 1 < cLine) : IxR X (fun x y H Q => ∃ a v, x = .ref a ∧ DGet H a y (some v) ∧ Q v H) := by
  intro value slice pins s σ H x y v u Q I rx ry h hs
  obtain ⟨a, z, rfl, g, q⟩ := h
  cases rx
  have hT := dict_typeIs I g
  unfold subscriptTail
  refine wpAny_bind ?_
  rw [getitemInPython_of_ne hT.not_modules]
  refine wpAny_bind (wpAny_specialOf hT PySem.F.slot_dict_getitem.lookup ?_)
  have fin : wpAny (model X.prog X.w) X.A (subscripted slice false (.ref a) u) (fun r s₃ => wpAny (model X.prog X.w) X.A (letTemporaryGo value (.ref a) r >>= fun _ => pure r) (EP X pins σ Q) X.xe s₃) X.xe s := by
    rw [hs]
    exact wpAny_operating (d_getItem hu I g ry fun r s₃ I3 r3 => wpAny_bind (wpAny_letTemporaryGo (wpAny_pure ⟨z, H, I3, r3, q⟩)))
  first
    | exact wpAny_pure (wpAny_bind fin)
    | exact wpAny_bind (wpAny_pure (wpAny_bind fin))
    | exact wpAny_bind fin
theorem ix_any (hu : X.A.units + 1 < cLine) : IxR X (rdOp X.K oIx) := by
  intro value slice pins s σ H x y v u Q I rx ry h hs
  obtain ⟨ρ, S, a, b, hr, ra, rb, q⟩ := h
  unfold oIx at q
  split at q
  · rename_i w e
    obtain ⟨ad, rfl, g⟩ := lookS_get hr ra rb e
    rcases g with ⟨z, _⟩ | ⟨w', v', z, g, r⟩
    · cases z
    · cases z
      exact ix_dict hu value slice pins s σ H _ _ v u Q I rx ry ⟨ad, v', rfl, g, q.ok_now hr _ r⟩ hs
  · exact q.elim
  · split at q
    · cases rb
      split at q
      · split at q
        · rename_i c e
          cases ra with
          | str hz =>
            rename_i z
            refine ix_str value slice pins s σ H _ _ v u Q I rx ry ⟨_, _, c, rfl, rfl, okS_len hz, e, q.ok_now hr _ (.str ?_)⟩ hs
            have hc := atI_mem e
            have ha := okS_cps hz
            rw [← Array.all_toList, List.all_eq_true] at ha
            refine okS_mk ?_ ?_
            · simpa using ha c hc
            · show (1 : Nat) ≤ sizeLine
              rw [sizeLine_eq]
              decide
        · exact q.elim
      · split at q
        · rename_i xs e
          split at q
          · rename_i w e2
            obtain ⟨ad, vs, rfl, h1, h2⟩ := seqL_sq hr ra e
            obtain ⟨z, h3, h4⟩ := atI_rep h2 e2
            exact ix_list value slice pins s σ H _ _ v u Q I rx ry ⟨ad, vs, _, z, rfl, rfl, h1, h3, q.ok_now hr _ h4⟩ hs
          · exact q.elim
        · split at q
          · rename_i xs e
            split at q
            · rename_i w e2
              obtain ⟨ad, vs, rfl, h1, h2⟩ := seqT_sq ra e
              obtain ⟨z, h3, h4⟩ := atI_rep h2 e2
              exact ix_tup value slice pins s σ H _ _ v u Q I rx ry ⟨ad, vs, _, z, rfl, rfl, h1, h3, q.ok_now hr _ h4⟩ hs
            · exact q.elim
          · exact q.elim
    · exact q.elim
theorem a_ix {Wx : WX} {a b : Expr} {fa fb : FE} {pos : Pos} (hu : X.A.units + 1 < cLine) (ha : AE X Wx a fa) (hb : AE X Wx b fb) (hs : PlainIx b) : AE X Wx (.Subscript a b pos) (mBin oIx fa fb) :=
  peM (pe_ix (ix_any hu) ha hb hs) fun _ _ _ h => mBin_go (fun _ _ _ _ q => q) h

/-! ### a[lo:hi] -/
abbrev FO := ASt → Store → Res (Option Int)
def RdO (K : PySem.W.Frag) (Wx : WX) (f : FO) : TO := fun σ H Q => ∃ ρ S τ, Rel K ρ S H ∧ StRep K ρ H σ τ ∧ ROk K ρ H (fun o _ _ H' => Q o H') (RX K Wx σ) (f τ S)
def AO (X : Cx) (Wx : WX) (e : Option Expr) (f : FO) : Prop := PO X e (RdO X.K Wx f)
def mPart (f : FE) : FO := fun τ S => (f τ S).bind fun w S1 => match w with
  | .int i => .ok (some i) S1
  | _ => .fail
def mNoPart : FO := fun _ S => .ok none S
theorem ao_none {Wx : WX} : AO X Wx none mNoPart := ⟨fun pins s σ H Q I ⟨ρ, S, τ, h1, h2, h3⟩ => po_none.run pins s σ H Q I (h3.ok_now h1)⟩
theorem ao_some {Wx : WX} {e : Expr} {f : FE} (h : AE X Wx e f) : AO X Wx (some e) (mPart f) := ⟨fun pins s σ H Q I ⟨ρ, S, τ, h1, h2, h3⟩ => (po_some h).run pins s σ H Q I <| by
  refine RdE.mk h1 h2 h3.split fun x ρ1 S1 H1 v e1 r1 s1 rv q1 => ?_
  cases rv with
  | int => exact ⟨_, rfl, q1.ok_now r1⟩
  | _ => exact q1.elim⟩
def cutW (xs : List W) (lo hi : Option Int) : List W := (xs.drop (HT.sIx xs.length 0 lo)).take (HT.sIx xs.length xs.length hi - HT.sIx xs.length 0 lo)
def oSl (x : W) (lo hi : Option Int) (S : Store) : Res W := match x with
  | .str z => .ok (.str (cutS z lo hi)) S
  | .tup xs => .ok (.tup (cutW xs lo hi)) S
  | x => match seqL S x with
    | some xs => .ok (.lst (cutW xs lo hi)) S
    | none => .fail
theorem cut_rep {K : PySem.W.Frag} {ρ : Rho} {H : Hp} {vs : List V} {ws : List W} {lo hi : Option Int} (r : RepL K ρ H vs ws) : RepL K ρ H (cutV vs lo hi) (cutW ws lo hi) := by
  unfold cutV cutW
  rw [r.length]
  exact (r.drop _).take _
theorem cutW_all {ws : List W} {lo hi : Option Int} (h : HT.sIx ws.length 0 lo = 0 ∧ HT.sIx ws.length ws.length hi = ws.length) : cutW ws lo hi = ws := by
  unfold cutW
  rw [h.1, h.2]
  simp
theorem okS_cut {z : Str} {lo hi : Option Int} (h : okS z = true) : okS (cutS z lo hi) = true := by
  refine okS_mk ?_ ?_
  · have ha := okS_cps h
    rw [← Array.all_toList, List.all_eq_true] at ha
    rw [← Array.all_toList, List.all_eq_true]
    intro c hc
    exact ha c (List.mem_of_mem_drop (List.mem_of_mem_take hc))
  · have := okS_len h
    show (List.toArray _).size ≤ sizeLine
    rw [List.size_toArray, List.length_take, List.length_drop]
    have e : z.cps.toList.length = z.length := rfl
    omega
def rdSl (K : PySem.W.Frag) : V → Option Int → Option Int → Hp → VK → Prop := fun v lo hi H Q => ∃ ρ S x, Rel K ρ S H ∧ Rep K ρ H v x ∧ ROk K ρ H (RQ K Q) (fun _ _ _ _ => False) (oSl x lo hi S)
theorem sl_any : SlR X (rdSl X.K) := by
  intro pins s σ H x v vl vu lo hi sl Q I rx hs pl pu h
  obtain ⟨ρ, S, a, hr, ra, q⟩ := h
  unfold oSl at q
  split at q
  · cases ra with
    | str hz => exact sl_str pins s σ H _ v vl vu lo hi sl Q I rx hs pl pu ⟨_, rfl, okS_len hz, q.ok_now hr _ (.str (okS_cut hz))⟩
  · cases ra with
    | tup ht hl =>
      refine sl_tupA pins s σ H _ v vl vu lo hi sl Q I rx hs pl pu ⟨_, _, rfl, ht.sq, fun hw => ?_, fun _ p hp => q.tup hr (cut_rep hl) hp⟩
      rw [hl.length] at hw
      have q' := q.ok_now hr
      rw [cutW_all hw] at q'
      exact q' _ (.tup ht hl)
  · split at q
    · rename_i xs e
      obtain ⟨ad, vs, rfl, h1, h2⟩ := seqL_sq hr ra e
      exact sl_list pins s σ H _ v vl vu lo hi sl Q I rx hs pl pu ⟨_, _, rfl, h1, fun p hp => q.lst hr (cut_rep h2) hp⟩
    · exact q.elim
def mSl (fa : FE) (fl fh : FO) : FE := fun τ S => (fa τ S).bind fun x S1 => (fl τ S1).bind fun lo S2 => (fh τ S2).bind fun hi S3 => noX (oSl x lo hi S3)
theorem a_sl {Wx : WX} {e : Expr} {lo hi : Option Expr} {fa : FE} {fl fh : FO} {p2 pos : Pos} (he : AE X Wx e fa) (hl : AO X Wx lo fl) (hh : AO X Wx hi fh) : AE X Wx (.Subscript e (.Slice lo hi none p2) pos) (mSl fa fl fh) :=
  peM (pe_slice sl_any he hl hh) fun σ H Q ⟨ρ, S, τ, h1, h2, h3⟩ => by
    refine RdE.mk h1 h2 h3.split fun x ρ1 S1 H1 v e1 r1 s1 rv q1 => ?_
    refine ⟨ρ1, S1, τ, r1, s1, q1.split.imp (fun lo ρ2 S2 H2 e2 r2 q2 => ?_) fun _ _ _ _ _ _ z => z⟩
    refine ⟨ρ2, S2, τ, r2, s1.evo e2, q2.split.imp (fun hi ρ3 S3 H3 e3 r3 q3 => ?_) fun _ _ _ _ _ _ z => z⟩
    exact ⟨ρ3, S3, x, r3, (rv.evo e2).evo e3, noX_ok q3⟩
end
end Eng
namespace Eng
open PySem PySem.Spec PyProof.Rows L2
section
variable {X : Cx} {Wx : WX} {e a b c o : Expr} {es : List Expr} {f fa fb fc : FE} {g : FA} {ft fu : FT} {pos p2 : Pos}

/-! ### arguments, displays -/
def mNil : FA := fun _ S => .ok [] S
def mCons (f : FE) (g : FA) : FA := fun τ S => (f τ S).bind fun x S1 => (g τ S1).bind fun xs S2 => .ok (x :: xs) S2
def mStar (f : FE) (g : FA) : FA := fun τ S => (f τ S).bind fun x S1 => match seqT x with
  | some ys => (g τ S1).bind fun xs S2 => .ok (ys ++ xs) S2
  | none => match seqL S1 x with
    | some ys => (g τ S1).bind fun xs S2 => .ok (ys ++ xs) S2
    | none => .fail
theorem aa_nil : AA X Wx [] mNil := paM pa_nil fun σ H Q ⟨ρ, S, τ, h1, h2, h3⟩ => h3.ok_now h1 _ .nil
theorem aa_cons (he : AE X Wx e f) (hr : AA X Wx es g) (hs : starEach (e :: es) X.env = (false, eval e X.env) :: starEach es X.env := by rfl) : AA X Wx (e :: es) (mCons f g) :=
  paM (pa_cons he hr hs) fun σ H Q ⟨ρ, S, τ, h1, h2, h3⟩ => by
    refine RdE.mk h1 h2 h3.split fun x ρ1 S1 H1 v e1 r1 s1 rv q1 => ?_
    refine RdA.mk r1 s1 q1.split fun xs ρ2 S2 H2 vs e2 r2 s2 rvs q2 => ?_
    exact q2.ok_now r2 _ (.cons (rv.evo e2) rvs)
theorem aa_star (he : AE X Wx e f) (hr : AA X Wx es g) (hs : starEach (.Starred e p2 :: es) X.env = (true, eval e X.env) :: starEach es X.env := by rfl) : AA X Wx (.Starred e p2 :: es) (mStar f g) :=
  paM (StX.pa_star he hr hs) fun σ H Q ⟨ρ, S, τ, h1, h2, h3⟩ => by
    refine RdE.mk h1 h2 h3.split fun x ρ1 S1 H1 v e1 r1 s1 rv q1 => ?_
    split at q1
    · rename_i ys ey
      obtain ⟨ad, us, rfl, t1, l1⟩ := seqT_sq rv ey
      refine ⟨ad, us, rfl, .inl t1, ?_⟩
      refine RdA.mk r1 s1 q1.split fun xs ρ2 S2 H2 vs e2 r2 s2 rvs q2 => ?_
      exact q2.ok_now r2 _ ((l1.evo e2).append rvs)
    · split at q1
      · rename_i ys ey
        obtain ⟨ad, us, rfl, t1, l1⟩ := seqL_sq r1 rv ey
        refine ⟨ad, us, rfl, .inr t1, ?_⟩
        refine RdA.mk r1 s1 q1.split fun xs ρ2 S2 H2 vs e2 r2 s2 rvs q2 => ?_
        exact q2.ok_now r2 _ ((l1.evo e2).append rvs)
      · exact q1.elim
def mTup (g : FA) : FE := fun τ S => (g τ S).bind fun xs S1 => if xs.length ≤ sizeLine then .ok (.tup xs) S1 else .fail
def mLst (g : FA) : FE := fun τ S => (g τ S).bind fun xs S1 => if xs.length ≤ sizeLine then .ok (.lst xs) S1 else .fail
/-- a list that will change -/
def mLstR (g : FA) : FE := fun τ S => (g τ S).bind fun xs S1 => if xs.length ≤ sizeLine then .ok (.ref S1.length) (S1 ++ [.lst xs]) else .fail
theorem a_tup {x1} (h : AA X Wx es g) : AE X Wx (.Tuple es x1 pos) (mTup g) := peM (pe_tup h) fun σ H Q ⟨ρ, S, τ, h1, h2, h3⟩ => by
  refine RdA.mk h1 h2 h3.split fun xs ρ1 S1 H1 vs e1 r1 s1 rvs q1 => ?_
  split at q1
  · rename_i hl
    exact ⟨by rw [rvs.length]; exact hl, fun p hp => q1.tup r1 rvs hp⟩
  · exact q1.elim
theorem a_lst (h : AA X Wx es g) : AE X Wx (.List es pos) (mLst g) := peM (pe_lst h) fun σ H Q ⟨ρ, S, τ, h1, h2, h3⟩ => by
  refine RdA.mk h1 h2 h3.split fun xs ρ1 S1 H1 vs e1 r1 s1 rvs q1 => ?_
  split at q1
  · rename_i hl
    exact ⟨by rw [rvs.length]; exact hl, fun p hp => q1.lst r1 rvs hp⟩
  · exact q1.elim
theorem ROk.lstR {K : PySem.W.Frag} {ρ : Rho} {S : Store} {H : Hp} {p : Addr} {vs : List V} {ws : List W} {Q : VK} {Xc : XV → Rho → Store → Hp → Prop} (q : ROk K ρ H (RQ K Q) Xc (.ok (.ref S.length) (S ++ [.lst ws]))) (rl : Rel K ρ S H) (r : RepL K ρ H vs ws) (hp : H p = none) : Q (.ref p) (upd H p (.lst vs)) := by
  refine q (ρ.add p) _ (Evo.alloc rl hp) (rl.alloc hp ⟨vs, upd_same, r.evo (Evo.alloc rl hp)⟩) _ (.ref ?_)
  rw [← rl.len]
  show (ρ.refs ++ [p])[ρ.refs.length]? = some p
  simp
theorem a_lstR (h : AA X Wx es g) : AE X Wx (.List es pos) (mLstR g) := peM (pe_lst h) fun σ H Q ⟨ρ, S, τ, h1, h2, h3⟩ => by
  refine RdA.mk h1 h2 h3.split fun xs ρ1 S1 H1 vs e1 r1 s1 rvs q1 => ?_
  split at q1
  · rename_i hl
    exact ⟨by rw [rvs.length]; exact hl, fun p hp => q1.lstR r1 rvs hp⟩
  · exact q1.elim
/-- {} with int and text keys; with tuples as keys -/
def mDictK : FE := fun _ S => .ok (.ref S.length) (S ++ [.dK []])
def mDictT : FE := fun _ S => .ok (.ref S.length) (S ++ [.dT []])
theorem a_dictK : AE X Wx (.Dict [] [] pos) mDictK := peM pe_dnewK fun σ H Q ⟨ρ, S, τ, h1, h2, h3⟩ => fun p hp => by
  refine h3 (ρ.add p) _ (Evo.alloc h1 hp) (h1.alloc hp ⟨[], upd_same, rfl, .nil⟩) _ (.ref ?_)
  rw [← h1.len]
  show (ρ.refs ++ [p])[ρ.refs.length]? = some p
  simp
theorem a_dictT : AE X Wx (.Dict [] [] pos) mDictT := peM pe_dnewT fun σ H Q ⟨ρ, S, τ, h1, h2, h3⟩ => fun p hp => by
  refine h3 (ρ.add p) _ (Evo.alloc h1 hp) (h1.alloc hp ⟨[], upd_same, rfl, .nil⟩) _ (.ref ?_)
  rw [← h1.len]
  show (ρ.refs ++ [p])[ρ.refs.length]? = some p
  simp

/-! ### tests -/
def mTest (f : FE) : FT := fun τ S => (f τ S).bind fun w S1 => match w with
  | .bl k => .ok k S1
  | _ => .fail
theorem mTest_go {σ : L2.St} {H : Hp} {Q : Bool → Hp → Prop} (h : RdT X.K Wx (mTest f) σ H Q) : RdE X.K Wx f σ H fun x H' => ∃ k, x = .bl k ∧ Q k H' := by
  obtain ⟨ρ, S, τ, h1, h2, h3⟩ := h
  refine RdE.mk h1 h2 h3.split fun x ρ1 S1 H1 v e1 r1 s1 rv q1 => ?_
  cases rv with
  | bl => exact ⟨_, rfl, q1.ok_now r1⟩
  | _ => exact q1.elim
theorem at_val (h : AE X Wx e f) (he : ∀ whole, isTrue e X.env whole = (do let v ← whole; standAt e.pos; holding [v] (truthy v)) := by intro _; rfl) : AT X Wx e (mTest f) :=
  ptM (pt_val h he) fun σ H Q q => mTest_go q
theorem at_cmp {op : CmpOp} {o : W → W → Store → Res W} (ho : OpA X (compareOp op) o) (ha : AE X Wx a fa) (hb : AE X Wx b fb) (hm : behindInMarks op b = false) : AT X Wx (.Compare a [op] [b] pos) (mTest (mBin o fa fb)) :=
  ptM (pt_cmpR ho ha hb hm) fun σ H Q q => by
    have z := mTest_go q
    obtain ⟨ρ, S, τ, h1, h2, h3⟩ := z
    exact mBin_go (fun _ _ _ _ q => q) ⟨ρ, S, τ, h1, h2, h3⟩
def mNot (ft : FT) : FT := fun τ S => (ft τ S).bind fun k S1 => .ok (!k) S1
theorem at_not (h : AT X Wx a ft) : AT X Wx (.UnaryOp .Not a pos) (mNot ft) := ptM (pt_not h) fun σ H Q ⟨ρ, S, τ, h1, h2, h3⟩ =>
  RdT.mk h1 h2 h3.split fun k ρ1 S1 H1 e1 r1 s1 q1 => q1.ok_now r1
def AW (X : Cx) (Wx : WX) (e : Expr) (f : FT) : Prop := PW X e (RdT X.K Wx f)
theorem pwM {X : Cx} {e : Expr} {t t' : TT} (h : PW X e t) (m : ∀ σ H Q, t' σ H Q → t σ H Q) : PW X e t' := ⟨fun wh pins s σ H Q I q => h.run wh pins s σ H Q I (m σ H Q q)⟩
theorem AW.at (h : AW X Wx e ft) : AT X Wx e ft := PW.pt h
def mAnd (ft fu : FT) : FT := fun τ S => (ft τ S).bind fun k S1 => if k = true then fu τ S1 else .ok false S1
def mOr (ft fu : FT) : FT := fun τ S => (ft τ S).bind fun k S1 => if k = true then .ok true S1 else fu τ S1
theorem aw_and1 (h : AT X Wx a ft) : AW X Wx (.BoolOp .And [a] pos) ft := pw_and1 h
theorem aw_or1 (h : AT X Wx a ft) : AW X Wx (.BoolOp .Or [a] pos) ft := pw_or1 h
theorem aw_and (h : AT X Wx a ft) (hr : AW X Wx (.BoolOp .And (b :: es) pos) fu) : AW X Wx (.BoolOp .And (a :: b :: es) pos) (mAnd ft fu) := pwM (pw_and h hr) fun σ H Q ⟨ρ, S, τ, h1, h2, h3⟩ =>
  RdT.mk h1 h2 h3.split fun k ρ1 S1 H1 e1 r1 s1 q1 => by
    cases k with
    | true => exact ⟨ρ1, S1, τ, r1, s1, q1⟩
    | false => exact q1.ok_now r1
theorem aw_or (h : AT X Wx a ft) (hr : AW X Wx (.BoolOp .Or (b :: es) pos) fu) : AW X Wx (.BoolOp .Or (a :: b :: es) pos) (mOr ft fu) := pwM (pw_or h hr) fun σ H Q ⟨ρ, S, τ, h1, h2, h3⟩ =>
  RdT.mk h1 h2 h3.split fun k ρ1 S1 H1 e1 r1 s1 q1 => by
    cases k with
    | true => exact q1.ok_now r1
    | false => exact ⟨ρ1, S1, τ, r1, s1, q1⟩
def mNotV (f : FE) : FE := fun τ S => (f τ S).bind fun w S1 => match w with
  | .bl k => .ok (.bl (!k)) S1
  | _ => .fail
def mAndV (f g : FE) : FE := fun τ S => (f τ S).bind fun w S1 => match w with
  | .bl k => if k = true then g τ S1 else .ok (.bl false) S1
  | _ => .fail
def mOrV (f g : FE) : FE := fun τ S => (f τ S).bind fun w S1 => match w with
  | .bl k => if k = true then .ok (.bl true) S1 else g τ S1
  | _ => .fail
theorem a_not (h : AE X Wx a fa) : AE X Wx (.UnaryOp .Not a pos) (mNotV fa) := peM (pe_not h) fun σ H Q ⟨ρ, S, τ, h1, h2, h3⟩ =>
  RdE.mk h1 h2 h3.split fun x ρ1 S1 H1 v e1 r1 s1 rv q1 => by
    cases rv with
    | bl => exact ⟨_, rfl, q1.ok_now r1 _ .bl⟩
    | _ => exact q1.elim
theorem a_one {op} (h : AE X Wx a fa) : AE X Wx (.BoolOp op [a] pos) fa := pe_one h
theorem a_and (h : AE X Wx a fa) (hr : AE X Wx (.BoolOp .And (b :: es) pos) fb) : AE X Wx (.BoolOp .And (a :: b :: es) pos) (mAndV fa fb) := peM (pe_and h hr) fun σ H Q ⟨ρ, S, τ, h1, h2, h3⟩ =>
  RdE.mk h1 h2 h3.split fun x ρ1 S1 H1 v e1 r1 s1 rv q1 => by
    cases rv with
    | bl =>
      rename_i k
      refine ⟨k, rfl, ?_⟩
      cases k with
      | true => exact ⟨ρ1, S1, τ, r1, s1, q1⟩
      | false => exact q1.ok_now r1 _ .bl
    | _ => exact q1.elim
theorem a_or (h : AE X Wx a fa) (hr : AE X Wx (.BoolOp .Or (b :: es) pos) fb) : AE X Wx (.BoolOp .Or (a :: b :: es) pos) (mOrV fa fb) := peM (pe_or h hr) fun σ H Q ⟨ρ, S, τ, h1, h2, h3⟩ =>
  RdE.mk h1 h2 h3.split fun x ρ1 S1 H1 v e1 r1 s1 rv q1 => by
    cases rv with
    | bl =>
      rename_i k
      refine ⟨k, rfl, ?_⟩
      cases k with
      | true => exact q1.ok_now r1 _ .bl
      | false => exact ⟨ρ1, S1, τ, r1, s1, q1⟩
    | _ => exact q1.elim
def mIf (ft : FT) (fa fb : FE) : FE := fun τ S => (ft τ S).bind fun k S1 => if k = true then fa τ S1 else fb τ S1
theorem a_if (hc : AT X Wx c ft) (ha : AE X Wx a fa) (hb : AE X Wx b fb) : AE X Wx (.IfExp c a b pos) (mIf ft fa fb) := peM (pe_ifExp hc ha hb) fun σ H Q ⟨ρ, S, τ, h1, h2, h3⟩ =>
  RdT.mk h1 h2 h3.split fun k ρ1 S1 H1 e1 r1 s1 q1 => by
    cases k with
    | true => exact ⟨ρ1, S1, τ, r1, s1, q1⟩
    | false => exact ⟨ρ1, S1, τ, r1, s1, q1⟩
def mNeg (f : FE) : FE := fun τ S => (f τ S).bind fun w S1 => match w with
  | .int k => .ok (.int (-k)) S1
  | _ => .fail
theorem a_neg (h : AE X Wx a fa) : AE X Wx (.UnaryOp .USub a pos) (mNeg fa) := peM (pe_un un_neg h) fun σ H Q ⟨ρ, S, τ, h1, h2, h3⟩ =>
  RdE.mk h1 h2 h3.split fun x ρ1 S1 H1 v e1 r1 s1 rv q1 => by
    cases rv with
    | int => exact ⟨_, rfl, q1.ok_now r1 _ .int⟩
    | _ => exact q1.elim

/-! ### built-ins -/
def rdC (K : PySem.W.Frag) (o : List W → Store → Res W) : List V → Hp → VK → Prop := fun vs H Q => ∃ ρ S ws, Rel K ρ S H ∧ RepL K ρ H vs ws ∧ ROk K ρ H (RQ K Q) (fun _ _ _ _ => False) (o ws S)
def CallA (X : Cx) (f : Value) (o : List W → Store → Res W) : Prop := CallR X f (rdC X.K o)
def mCall (o : List W → Store → Res W) (g : FA) : FE := fun τ S => (g τ S).bind fun ws S1 => noX (o ws S1)
theorem mCall_go {o : List W → Store → Res W} {σ : L2.St} {H : Hp} {Q : VK} (h : RdE X.K Wx (mCall o g) σ H Q) : tCB (rdC X.K o) (RdA X.K Wx g) σ H Q := by
  obtain ⟨ρ, S, τ, h1, h2, h3⟩ := h
  exact RdA.mk h1 h2 h3.split fun xs ρ1 S1 H1 vs e1 r1 s1 rvs q1 => ⟨ρ1, S1, xs, r1, rvs, noX_ok q1⟩
theorem a_callB {x : Str} {id : String} {o : List W → Store → Res W} {p : Pos} (hc : CallA X (.builtin id) o) (hg : Gl X x) (hm : X.mg x = none) (hv : bootBuiltins x = some (.builtin id)) (ha : AA X Wx (e :: es) g) (hn : x ≠ "__name__" := by decide) (hdb : (x == ("__debug__" : Str)) = false := by decide)
    (he : starEach (e :: es) X.env = (false, eval e X.env) :: starEach es X.env := by rfl) (hpl : (backTo pos (starEach es X.env)).any (·.1) = false := by rfl) : AE X Wx (.Call (.Name x p) (e :: es) [] pos) (mCall o g) :=
  peM (pe_callB hc hg hm hv ha hn hdb he hpl) fun _ _ _ h => mCall_go h
theorem a_callTy {x : Str} {id : String} {o : List W → Store → Res W} {p : Pos} (hc : CallA X (.type id) o) (hg : Gl X x) (hm : X.mg x = none) (hv : bootBuiltins x = some (.type id)) (ha : AA X Wx (e :: es) g) (hn : x ≠ "__name__" := by decide) (hdb : (x == ("__debug__" : Str)) = false := by decide)
    (he : starEach (e :: es) X.env = (false, eval e X.env) :: starEach es X.env := by rfl) (hpl : (backTo pos (starEach es X.env)).any (·.1) = false := by rfl) : AE X Wx (.Call (.Name x p) (e :: es) [] pos) (mCall o g) :=
  peM (pe_callTy hc hg hm hv ha hn hdb he hpl) fun _ _ _ h => mCall_go h
def oLen (xs : List W) (S : Store) : Res W := match xs with
  | [.str z] => .ok (.int z.length) S
  | [.ref n] => match S[n]? with
    | some (.lst ys) => .ok (.int ys.length) S
    | some (.dK kvs) => .ok (.int kvs.length) S
    | _ => .fail
  | [x] => match seqT x with
    | some ys => .ok (.int ys.length) S
    | none => match seqL S x with
      | some ys => .ok (.int ys.length) S
      | none => .fail
  | _ => .fail
theorem repL1 {K : PySem.W.Frag} {ρ : Rho} {H : Hp} {vs : List V} {w : W} (r : RepL K ρ H vs [w]) : ∃ v, vs = [v] ∧ Rep K ρ H v w := by
  cases r with
  | cons h t => cases t; exact ⟨_, rfl, h⟩
theorem repL2 {K : PySem.W.Frag} {ρ : Rho} {H : Hp} {vs : List V} {w u : W} (r : RepL K ρ H vs [w, u]) : ∃ v v', vs = [v, v'] ∧ Rep K ρ H v w ∧ Rep K ρ H v' u := by
  cases r with
  | cons h t =>
    obtain ⟨v', rfl, h'⟩ := repL1 t
    exact ⟨_, _, rfl, h, h'⟩
theorem c_len : CallA X (.builtin "len") oLen := by
  intro pins s σ H xs us Q I r q
  obtain ⟨ρ, S, ws, hr, rw_, q⟩ := q
  unfold oLen at q
  split at q
  · obtain ⟨v, rfl, h⟩ := repL1 rw_
    cases h with
    | str hz => exact call_len_str pins s σ H _ us Q I r ⟨_, rfl, okS_len hz, q.ok_now hr _ .int⟩
  · obtain ⟨v, rfl, h⟩ := repL1 rw_
    cases h with
    | ref hn =>
      split at q
      · rename_i ys e
        obtain ⟨vs, h1, h2⟩ := ref_lst hr hn e
        exact call_len_seq pins s σ H _ us Q I r ⟨_, _, rfl, .inl (.inl (.inl h1)), by rw [h2.length]; exact q.ok_now hr _ .int⟩
      · rename_i kvs e
        obtain ⟨kws, h1, h2, h3⟩ : ObRep X.K ρ H (.dK kvs) _ := hr.obs _ _ _ e hn
        obtain ⟨u, rfl, rx⟩ := vals1 r
        cases rx
        have hl : kws.length = kvs.length := by simpa using congrArg List.length h2
        exact d_len I (.inl h1) fun t s' I' => ⟨.int kws.length, H, I', ⟨_, rfl⟩, by rw [hl]; exact q.ok_now hr _ .int⟩
      · exact q.elim
  · obtain ⟨v, rfl, h⟩ := repL1 rw_
    split at q
    · rename_i ys e
      obtain ⟨ad, vs, rfl, h1, h2⟩ := seqT_sq h e
      exact call_len_seq pins s σ H _ us Q I r ⟨_, _, rfl, .inr h1, by rw [h2.length]; exact q.ok_now hr _ .int⟩
    · split at q
      · rename_i ys e
        obtain ⟨ad, vs, rfl, h1, h2⟩ := seqL_sq hr h e
        exact call_len_seq pins s σ H _ us Q I r ⟨_, _, rfl, .inl h1, by rw [h2.length]; exact q.ok_now hr _ .int⟩
      · exact q.elim
  · exact q.elim
def oAbs (xs : List W) (S : Store) : Res W := match xs with
  | [.int i] => .ok (.int (if i < 0 then -i else i)) S
  | _ => .fail
theorem c_abs : CallA X (.builtin "abs") oAbs := by
  intro pins s σ H xs us Q I r q
  obtain ⟨ρ, S, ws, hr, rw_, q⟩ := q
  unfold oAbs at q
  split at q
  · obtain ⟨v, rfl, h⟩ := repL1 rw_
    cases h
    exact call_abs pins s σ H _ us Q I r ⟨_, rfl, q.ok_now hr _ .int⟩
  · exact q.elim
def oMin2 (xs : List W) (S : Store) : Res W := match xs with
  | [.int i, .int j] => .ok (.int (if j < i then j else i)) S
  | _ => .fail
theorem c_min2 (hc : X.calm = true) : CallA X (.builtin "min") oMin2 := by
  intro pins s σ H xs us Q I r q
  obtain ⟨ρ, S, ws, hr, rw_, q⟩ := q
  unfold oMin2 at q
  split at q
  · obtain ⟨v, v', rfl, h, h'⟩ := repL2 rw_
    cases h
    cases h'
    exact call_min2 hc pins s σ H _ us Q I r ⟨_, _, rfl, q.ok_now hr _ .int⟩
  · exact q.elim
def oMax2 (xs : List W) (S : Store) : Res W := match xs with
  | [.int i, .int j] => .ok (.int (if j > i then j else i)) S
  | _ => .fail
theorem c_max2 (hc : X.calm = true) : CallA X (.builtin "max") oMax2 := by
  intro pins s σ H xs us Q I r q
  obtain ⟨ρ, S, ws, hr, rw_, q⟩ := q
  unfold oMax2 at q
  split at q
  · obtain ⟨v, v', rfl, h, h'⟩ := repL2 rw_
    cases h
    cases h'
    exact call_max2 hc pins s σ H _ us Q I r ⟨_, _, rfl, q.ok_now hr _ .int⟩
  · exact q.elim
def oAll (xs : List W) (S : Store) : Res W := match xs with
  | [.lst ys] => match blsW ys with
    | some bs => .ok (.bl (bs.all id)) S
    | none => .fail
  | _ => .fail
where blsW : List W → Option (List Bool)
  | [] => some []
  | .bl k :: r => (blsW r).map (k :: ·)
  | _ :: _ => none
theorem blsW_map : ∀ {ys : List W} {bs : List Bool}, oAll.blsW ys = some bs → ys = bs.map W.bl
  | [], _, h => by cases h; rfl
  | w :: r, bs, h => by
    cases w with
    | bl k =>
      simp only [oAll.blsW, Option.map_eq_some_iff] at h
      obtain ⟨b2, h1, rfl⟩ := h
      rw [blsW_map h1]
      rfl
    | _ => simp [oAll.blsW] at h
theorem c_all (hc : X.calm = true) : CallA X (.builtin "all") oAll := by
  intro pins s σ H xs us Q I r q
  obtain ⟨ρ, S, ws, hr, rw_, q⟩ := q
  unfold oAll at q
  split at q
  · obtain ⟨v, rfl, h⟩ := repL1 rw_
    split at q
    · rename_i bs e
      have e2 := blsW_map e
      subst e2
      cases h with
      | lst hl hrr =>
        have e3 := hrr.ofBls
        subst e3
        exact cr_all hc pins s σ H _ us Q I r ⟨_, bs, rfl, hl.sq, q.ok_now hr _ .bl⟩
    · exact q.elim
  · exact q.elim
/-- int(x) of an int or a bool -/
def oInt (xs : List W) (S : Store) : Res W := match xs with
  | [.int i] => .ok (.int i) S
  | [.bl k] => .ok (.int (if k then 1 else 0)) S
  | _ => .fail
theorem c_int : CallA X (.type "int") oInt := by
  intro pins s σ H xs us Q I r q
  obtain ⟨ρ, S, ws, hr, rw_, q⟩ := q
  unfold oInt at q
  split at q
  · obtain ⟨v, rfl, h⟩ := repL1 rw_
    cases h
    exact call_int1 pins s σ H _ us Q I r (.inl ⟨_, rfl, q.ok_now hr _ .int⟩)
  · obtain ⟨v, rfl, h⟩ := repL1 rw_
    cases h
    exact call_int1 pins s σ H _ us Q I r (.inr ⟨_, rfl, q.ok_now hr _ .int⟩)
  · exact q.elim
end
end Eng
namespace Eng
open PySem PySem.Spec PyProof.Rows L2
/-- the signs of a text -/
def signsS (x : Str) : List Str := x.cps.toList.map fun c => ⟨#[c]⟩
def signsW (x : Str) : List W := (signsS x).map W.str
theorem signs_vals {x : Str} {acc : Array Value} (h : ItemsOf (SignAt x) acc x.cps.size) : Vals ((signsS x).map V.str) acc.toList := by
  refine vals_of_at (by rw [List.length_map, signsS, List.length_map, Array.length_toList, Array.length_toList, h.1]) fun j v u h1 h2 => ?_
  obtain ⟨c, t, h3, rfl⟩ := h.2 j u (by rw [← Array.getElem?_toList]; exact h2)
  rw [signsS, List.map_map, List.getElem?_map, Array.getElem?_toList, h3] at h1
  cases h1
  exact ⟨t, rfl⟩
theorem okS_signs {x : Str} (h : okS x = true) : ∀ y ∈ signsS x, okS y = true := fun y hy => by
  obtain ⟨c, hc, rfl⟩ := List.mem_map.mp hy
  have ha := okS_cps h
  rw [← Array.all_toList, List.all_eq_true] at ha
  refine okS_mk ?_ ?_
  · simpa using ha c hc
  · show (1 : Nat) ≤ sizeLine
    rw [sizeLine_eq]
    decide
section
variable {X : Cx} {Wx : WX} {e a b c o : Expr} {es : List Expr} {f fa fb fc fo : FE} {g : FA} {ft fu : FT} {pos p2 : Pos}
theorem run_tuple_str {pins : List (Addr × Obj)} {σ : L2.St} {H : Hp} {s : Shared} {x : Str} {t : Tok} {Q : VK} (hc : X.calm = true) (I : Inv X pins σ H s) (hz : x.length ≤ sizeLine) (q : ∀ p, H p = none → Q (.ref p) (upd H p (.tup ((signsS x).map V.str)))) :
    wpAny (model X.prog X.w) X.A (call (.type "tuple") [.str x t]) (EP X pins σ Q) X.xe s := by
  refine call_tuple_str (I.ok.hd hc) x t (fun h' tk acc hk hi => ?_) hz
  have I1 : Inv X pins σ H { s with heap := h', toks := tk } := I.kept hk
  refine ⟨.ref h'.objs.size, _, I1.laid (t' := tk) (o := .tup ((signsS x).map V.str)) (fun b o e => Heap.get?_push_of_some _ e) (Nat.le_refl _) ⟨?_, acc.toList, signs_vals hi, ?_⟩, rfl, q _ (I1.hok.fresh (Nat.le_refl _))⟩
  · rw [List.length_map, signsS, List.length_map]; exact hz
  · rw [Array.toArray_toList]; exact IsTup.new _ _
theorem run_list_str {pins : List (Addr × Obj)} {σ : L2.St} {H : Hp} {s : Shared} {x : Str} {t : Tok} {Q : VK} (hc : X.calm = true) (I : Inv X pins σ H s) (hz : x.length ≤ sizeLine) (q : ∀ p, H p = none → Q (.ref p) (upd H p (.lst ((signsS x).map V.str)))) :
    wpAny (model X.prog X.w) X.A (call (.type "list") [.str x t]) (EP X pins σ Q) X.xe s := by
  refine call_list_str (I.ok.hd hc) x t (fun h' tk acc c' hk hS hi => ?_) hz
  refine ⟨.ref s.heap.objs.size, _, I.laid (t' := tk) (o := .lst ((signsS x).map V.str)) hk (Nat.le_refl _) ⟨?_, acc.toList, c', signs_vals hi, ?_⟩, rfl, q _ (I.hok.fresh (Nat.le_refl _))⟩
  · rw [List.length_map, signsS, List.length_map]; exact hz
  · rw [Array.toArray_toList]; exact hS
def oTuple (xs : List W) (S : Store) : Res W := match xs with
  | [.str z] => .ok (.tup (signsW z)) S
  | [.tup ys] => .ok (.tup ys) S
  | [x] => match seqL S x with
    | some ys => .ok (.tup ys) S
    | none => .fail
  | _ => .fail
theorem c_tuple (hc : X.calm = true) : CallA X (.type "tuple") oTuple := by
  intro pins s σ H xs us Q I r q
  obtain ⟨ρ, S, ws, hr, rw_, q⟩ := q
  unfold oTuple at q
  split at q
  · obtain ⟨v, rfl, h⟩ := repL1 rw_
    cases h with
    | str hz =>
      obtain ⟨u, rfl, t, rfl⟩ := vals1 r
      exact run_tuple_str hc I (okS_len hz) fun p hp => q.tup hr (RepL.strs _ (okS_signs hz)) hp
  · obtain ⟨v, rfl, h⟩ := repL1 rw_
    cases h with
    | tup ht hl => exact call_tuple_of pins s σ H _ us Q I r ⟨_, _, rfl, .inr ⟨ht.sq, q.ok_now hr _ (.tup ht hl)⟩⟩
  · obtain ⟨v, rfl, h⟩ := repL1 rw_
    split at q
    · rename_i ys e
      obtain ⟨ad, vs, rfl, h1, h2⟩ := seqL_sq hr h e
      exact call_tuple_of pins s σ H _ us Q I r ⟨_, _, rfl, .inl ⟨h1, fun p hp => q.tup hr h2 hp⟩⟩
    · exact q.elim
  · exact q.elim
/-- the items of list(x) -/
def itemsOf (S : Store) : W → Option (List W)
  | .str z => some (signsW z)
  | .ref n => match S[n]? with
    | some (.lst ys) => some ys
    | some (.dK kvs) => some (kvs.map fun kv => kwW kv.1)
    | _ => none
  | x => match seqT x with
    | some ys => some ys
    | none => seqL S x
where kwW : Key → W
  | .inl i => .int i
  | .inr x => .str x
theorem okS_keys {P : Program} {w : World} {H : Hp} {h : Heap} : True := trivial
def oList (xs : List W) (S : Store) : Res W := match xs with
  | [.str z] => .ok (.lst (signsW z)) S
  | [x] => match seqT x with
    | some ys => .ok (.lst ys) S
    | none => match seqL S x with
      | some ys => .ok (.lst ys) S
      | none => .fail
  | _ => .fail
/-- .. that will change -/
def oListR (xs : List W) (S : Store) : Res W := match xs with
  | [.str z] => .ok (.ref S.length) (S ++ [.lst (signsW z)])
  | [x] => match seqT x with
    | some ys => .ok (.ref S.length) (S ++ [.lst ys])
    | none => match seqL S x with
      | some ys => .ok (.ref S.length) (S ++ [.lst ys])
      | none => .fail
  | _ => .fail
theorem c_list (hc : X.calm = true) : CallA X (.type "list") oList := by
  intro pins s σ H xs us Q I r q
  obtain ⟨ρ, S, ws, hr, rw_, q⟩ := q
  unfold oList at q
  split at q
  · obtain ⟨v, rfl, h⟩ := repL1 rw_
    cases h with
    | str hz =>
      obtain ⟨u, rfl, t, rfl⟩ := vals1 r
      exact run_list_str hc I (okS_len hz) fun p hp => q.lst hr (RepL.strs _ (okS_signs hz)) hp
  · obtain ⟨v, rfl, h⟩ := repL1 rw_
    split at q
    · rename_i ys e
      obtain ⟨ad, vs, rfl, h1, h2⟩ := seqT_sq h e
      exact call_list_of pins s σ H _ us Q I r ⟨_, _, rfl, .inr h1, fun p hp => q.lst hr h2 hp⟩
    · split at q
      · rename_i ys e
        obtain ⟨ad, vs, rfl, h1, h2⟩ := seqL_sq hr h e
        exact call_list_of pins s σ H _ us Q I r ⟨_, _, rfl, .inl h1, fun p hp => q.lst hr h2 hp⟩
      · exact q.elim
  · exact q.elim
theorem c_listR (hc : X.calm = true) : CallA X (.type "list") oListR := by
  intro pins s σ H xs us Q I r q
  obtain ⟨ρ, S, ws, hr, rw_, q⟩ := q
  unfold oListR at q
  split at q
  · obtain ⟨v, rfl, h⟩ := repL1 rw_
    cases h with
    | str hz =>
      obtain ⟨u, rfl, t, rfl⟩ := vals1 r
      exact run_list_str hc I (okS_len hz) fun p hp => q.lstR hr (RepL.strs _ (okS_signs hz)) hp
  · obtain ⟨v, rfl, h⟩ := repL1 rw_
    split at q
    · rename_i ys e
      obtain ⟨ad, vs, rfl, h1, h2⟩ := seqT_sq h e
      exact call_list_of pins s σ H _ us Q I r ⟨_, _, rfl, .inr h1, fun p hp => q.lstR hr h2 hp⟩
    · split at q
      · rename_i ys e
        obtain ⟨ad, vs, rfl, h1, h2⟩ := seqL_sq hr h e
        exact call_list_of pins s σ H _ us Q I r ⟨_, _, rfl, .inl h1, fun p hp => q.lstR hr h2 hp⟩
      · exact q.elim
  · exact q.elim

/-! ### methods of built-in types -/
def tyW (T : String) (S : Store) (x : W) : Bool := match T with
  | "str" => match x with
    | .str _ => true
    | _ => false
  | "list" => (seqL S x).isSome
  | "dict" => match x with
    | .ref n => match S[n]? with
      | some (.dK _) => true
      | some (.dT _) => true
      | _ => false
    | _ => false
  | _ => false
theorem tyW_ok {K : PySem.W.Frag} {ρ : Rho} {S : Store} {H : Hp} {T : String} {v : V} {x : W} (hr : Rel K ρ S H) (r : Rep K ρ H v x) (h : tyW T S x = true) : tyV K T v H := by
  unfold tyW at h
  split at h
  · split at h
    · cases r; exact rfl
    · cases h
  · cases e : seqL S x with
    | none => rw [e] at h; cases h
    | some ys =>
      obtain ⟨ad, vs, rfl, h1, _⟩ := seqL_sq hr r e
      exact .inl ⟨rfl, _, h1⟩
  · split at h
    · rename_i n
      cases r with
      | ref hn =>
        split at h
        · rename_i kvs e
          obtain ⟨kws, h1, _⟩ : ObRep K ρ H (.dK kvs) _ := hr.obs _ _ _ e hn
          exact .inr (.inr (.inl ⟨rfl, .inl ⟨_, h1⟩⟩))
        · rename_i kvs e
          obtain ⟨kws, h1, _⟩ : ObRep K ρ H (.dT kvs) _ := hr.obs _ _ _ e hn
          exact .inr (.inr (.inl ⟨rfl, .inr ⟨_, h1⟩⟩))
        · cases h
    · cases h
  · cases h
def rdM (K : PySem.W.Frag) (o : W → List W → Store → Res W) : V → List V → Hp → VK → Prop := fun v vs H Q => ∃ ρ S x ws, Rel K ρ S H ∧ Rep K ρ H v x ∧ RepL K ρ H vs ws ∧ ROk K ρ H (RQ K Q) (fun _ _ _ _ => False) (o x ws S)
def MtA (X : Cx) (id : String) (o : W → List W → Store → Res W) : Prop := MtR X id (rdM X.K o)
def mMeth (T : String) (o : W → List W → Store → Res W) (fo : FE) (g : FA) : FE := fun τ S => (fo τ S).bind fun x S1 => if tyW T S1 x = true then (g τ S1).bind fun ws S2 => noX (o x ws S2) else .fail
theorem a_meth {name : Str} {apos cpos : Pos} {T id : String} {m : W → List W → Store → Res W} (pa : PlainAttrs T) (slot : Slot T name id) (hty : typeOf (.builtin id) = pure (.type "method_descriptor")) (hm : MtA X id m) (ho : AE X Wx o fo) (ha : AA X Wx (e :: es) g)
    (hbase : attributeBase o name X.env (eval o X.env) = eval o X.env := by rfl)
    (hfew : ((backTo cpos (starEach (e :: es) X.env)).all (fun x => !x.1) && (backToKw cpos (keywordEach [] X.env)).all (fun x => x.1.isSome)
      && decide ((e :: es).length + ([] : List Keyword).length + (if ([] : List Keyword).isEmpty then 0 else 1) < 30)) = true := by rfl)
    (hline : (apos.endLine == cpos.line) = true := by rfl) (hs : starEach (e :: es) X.env = (false, eval e X.env) :: starEach es X.env := by rfl) (hplain : (backTo cpos (starEach es X.env)).any (·.1) = false := by rfl) :
    AE X Wx (.Call (.Attribute o name apos) (e :: es) [] cpos) (mMeth T m fo g) :=
  peM (pe_bm pa slot hty hm ho ha hbase hfew hline hs hplain) fun σ H Q ⟨ρ, S, τ, h1, h2, h3⟩ => by
    refine RdE.mk h1 h2 h3.split fun x ρ1 S1 H1 v e1 r1 s1 rv q1 => ?_
    split at q1
    · rename_i ht
      refine ⟨tyW_ok r1 rv ht, ?_⟩
      refine RdA.mk r1 s1 q1.split fun xs ρ2 S2 H2 vs e2 r2 s2 rvs q2 => ?_
      exact ⟨ρ2, S2, x, xs, r2, rv.evo e2, rvs, noX_ok q2⟩
    · exact q1.elim
def mMeth0 (T : String) (o : W → List W → Store → Res W) (fo : FE) : FE := fun τ S => (fo τ S).bind fun x S1 => if tyW T S1 x = true then noX (o x [] S1) else .fail
theorem a_meth0 {name : Str} {apos cpos : Pos} {T id : String} {m : W → List W → Store → Res W} (pa : PlainAttrs T) (slot : Slot T name id) (hty : typeOf (.builtin id) = pure (.type "method_descriptor")) (hm : MtA X id m) (ho : AE X Wx o fo)
    (hbase : attributeBase o name X.env (eval o X.env) = eval o X.env := by rfl) (hline : (apos.endLine == cpos.line) = true := by rfl) :
    AE X Wx (.Call (.Attribute o name apos) [] [] cpos) (mMeth0 T m fo) :=
  peM (pe_bm0 pa slot hty hm ho hbase hline) fun σ H Q ⟨ρ, S, τ, h1, h2, h3⟩ => by
    refine RdE.mk h1 h2 h3.split fun x ρ1 S1 H1 v e1 r1 s1 rv q1 => ?_
    split at q1
    · rename_i ht
      exact ⟨tyW_ok r1 rv ht, ρ1, S1, x, [], r1, rv, .nil, noX_ok q1⟩
    · exact q1.elim
/-- a list of the store is rewritten -/
theorem ROk.lset {K : PySem.W.Frag} {ρ : Rho} {S : Store} {H : Hp} {n : Nat} {a : Addr} {vs : List V} {ws : List W} {w : W} {v : V} {Q : VK} {Xc : XV → Rho → Store → Hp → Prop} (q : ROk K ρ H (RQ K Q) Xc (.ok w (S.set n (.lst ws)))) (rl : Rel K ρ S H) (ha : ρ.refs[n]? = some a) (r : RepL K ρ H vs ws)
    (rv : Rep K ρ H v w) : Q v (upd H a (.lst vs)) := by
  have ev : Evo ρ H ρ (upd H a (.lst vs)) := Evo.write rl (List.mem_of_getElem? ha)
  exact q ρ _ ev (rl.write ha ⟨vs, upd_same, r.evo ev⟩) _ (rv.evo ev)
def oAppend (x : W) (ws : List W) (S : Store) : Res W := match x, ws with
  | .ref n, [y] => match S[n]? with
    | some (.lst xs) => if xs.length < sizeLine then .ok .non (S.set n (.lst (xs ++ [y]))) else .fail
    | _ => .fail
  | _, _ => .fail
theorem m_append : MtA X "list.append" oAppend := by
  intro pins s σ H x vs v us Q I rx rv q
  obtain ⟨ρ, S, w, ws, hr, rw_, rws, q⟩ := q
  unfold oAppend at q
  split at q
  · obtain ⟨y, rfl, ry⟩ := repL1 rws
    cases rw_ with
    | ref hn =>
      split at q
      · rename_i xs e
        split at q
        · rename_i hl
          obtain ⟨zs, h1, h2⟩ := ref_lst hr hn e
          exact mt_append pins s σ H _ _ v us Q I rx rv ⟨_, zs, y, rfl, rfl, h1, by rw [h2.length]; exact hl, q.lset hr hn (h2.append (.cons ry .nil)) .non⟩
        · exact q.elim
      · exact q.elim
  · exact q.elim
def oPop (x : W) (ws : List W) (S : Store) : Res W := match x, ws with
  | .ref n, [] => match S[n]? with
    | some (.lst xs) => match xs[xs.length - 1]? with
      | some y => .ok y (S.set n (.lst xs.dropLast))
      | none => .fail
    | _ => .fail
  | _, _ => .fail
theorem m_pop : MtA X "list.pop" oPop := by
  intro pins s σ H x vs v us Q I rx rv q
  obtain ⟨ρ, S, w, ws, hr, rw_, rws, q⟩ := q
  unfold oPop at q
  split at q
  · cases rws
    cases rw_ with
    | ref hn =>
      split at q
      · rename_i xs e
        split at q
        · rename_i y ey
          obtain ⟨zs, h1, h2⟩ := ref_lst hr hn e
          obtain ⟨z, h3, h4⟩ := h2.get ey
          exact mt_pop pins s σ H _ _ v us Q I rx rv ⟨_, zs, z, rfl, rfl, h1, by rw [h2.length]; exact h3, q.lset hr hn h2.dropLast h4⟩
        · exact q.elim
      · exact q.elim
  · exact q.elim
def oReverse (x : W) (ws : List W) (S : Store) : Res W := match x, ws with
  | .ref n, [] => match S[n]? with
    | some (.lst xs) => .ok .non (S.set n (.lst xs.reverse))
    | _ => .fail
  | _, _ => .fail
theorem m_reverse : MtA X "list.reverse" oReverse := by
  intro pins s σ H x vs v us Q I rx rv q
  obtain ⟨ρ, S, w, ws, hr, rw_, rws, q⟩ := q
  unfold oReverse at q
  split at q
  · cases rws
    cases rw_ with
    | ref hn =>
      split at q
      · rename_i xs e
        obtain ⟨zs, h1, h2⟩ := ref_lst hr hn e
        exact mt_reverse pins s σ H _ _ v us Q I rx rv ⟨_, zs, rfl, rfl, h1, q.lset hr hn h2.reverse .non⟩
      · exact q.elim
  · exact q.elim
def oExtend (x : W) (ws : List W) (S : Store) : Res W := match x, ws with
  | .ref n, [y] => match S[n]?, seqM S y with
    | some (.lst xs), some ys => if xs.length + ys.length ≤ sizeLine then .ok .non (S.set n (.lst (xs ++ ys))) else .fail
    | _, _ => .fail
  | _, _ => .fail
theorem m_extend : MtA X "list.extend" oExtend := by
  intro pins s σ H x vs v us Q I rx rv q
  obtain ⟨ρ, S, w, ws, hr, rw_, rws, q⟩ := q
  unfold oExtend at q
  split at q
  · obtain ⟨y, rfl, ry⟩ := repL1 rws
    cases rw_ with
    | ref hn =>
      split at q
      · rename_i xs ys e e2
        split at q
        · rename_i hl
          obtain ⟨zs, h1, h2⟩ := ref_lst hr hn e
          obtain ⟨b, us2, rfl, h3, h4⟩ := seqM_at hr ry e2
          exact mt_extend pins s σ H _ _ v us Q I rx rv ⟨_, _, zs, us2, rfl, rfl, h1, h3, by rw [h2.length, h4.length]; exact hl, q.lset hr hn (h2.append h4) .non⟩
        · exact q.elim
      · exact q.elim
  · exact q.elim
/-- texts of a list -/
def strsW : List W → Option (List Str)
  | [] => some []
  | .str x :: r => (strsW r).map (x :: ·)
  | _ :: _ => none
theorem strsW_map : ∀ {ys : List W} {ss : List Str}, strsW ys = some ss → ys = ss.map W.str
  | [], _, h => by cases h; rfl
  | w :: r, ss, h => by
    cases w with
    | str x =>
      simp only [strsW, Option.map_eq_some_iff] at h
      obtain ⟨b2, h1, rfl⟩ := h
      rw [strsW_map h1]
      rfl
    | _ => simp [strsW] at h
theorem RepL.okStrs {K : PySem.W.Frag} {ρ : Rho} {H : Hp} : ∀ {vs : List V} {ss : List Str}, RepL K ρ H vs (ss.map W.str) → ∀ x ∈ ss, okS x = true
  | _, [], _, x, hx => by cases hx
  | _, y :: r, .cons (.str h) t, x, hx => by
    rcases List.mem_cons.mp hx with rfl | hx
    · exact h
    · exact RepL.okStrs t x hx
end
end Eng
namespace Eng
open PySem PySem.Spec PyProof.Rows L2

/-! ### statements -/
def SOk (K : PySem.W.Frag) (Wx : WX) (ρ : Rho) (H : Hp) (D : Ends) : SRes → Prop
  | .next τ S => ∀ ρ' H' σ', Evo ρ H ρ' H' → Rel K ρ' S H' → StRep K ρ' H' σ' τ → D.nx σ' H'
  | .ret w S => ∀ ρ' H' v, Evo ρ H ρ' H' → Rel K ρ' S H' → Rep K ρ' H' v w → D.rt v H'
  | .brk τ S => ∀ ρ' H' σ', Evo ρ H ρ' H' → Rel K ρ' S H' → StRep K ρ' H' σ' τ → D.bk σ' H'
  | .cnt τ S => ∀ ρ' H' σ', Evo ρ H ρ' H' → Rel K ρ' S H' → StRep K ρ' H' σ' τ → D.ct σ' H'
  | .exc x τ S => ∀ ρ' H' σ' cls d, Evo ρ H ρ' H' → Rel K ρ' S H' → StRep K ρ' H' σ' τ → XRep K ρ' H' x cls d → Wx cls d σ' H'
  | .fail => False
def RdS (K : PySem.W.Frag) (Wx : WX) (f : FS) : TS := fun D σ H => ∃ ρ S τ, Rel K ρ S H ∧ StRep K ρ H σ τ ∧ SOk K Wx ρ H D (f τ S)
def AS (X : Cx) (Wx : WX) (st : Stmt) (f : FS) : Prop := PS X st (RdS X.K Wx f)
def ASs (X : Cx) (Wx : WX) (st : List Stmt) (f : FS) : Prop := PSs X st (RdS X.K Wx f)
theorem SOk.start {K : PySem.W.Frag} {Wx : WX} {ρ ρ' : Rho} {H H' : Hp} {D : Ends} {r : SRes} (e : Evo ρ H ρ' H') (h : SOk K Wx ρ H D r) : SOk K Wx ρ' H' D r := by
  cases r with
  | next τ S => exact fun ρ2 H2 σ2 e2 => h ρ2 H2 σ2 (e.trans e2)
  | ret τ S => exact fun ρ2 H2 σ2 e2 => h ρ2 H2 σ2 (e.trans e2)
  | brk τ S => exact fun ρ2 H2 σ2 e2 => h ρ2 H2 σ2 (e.trans e2)
  | cnt τ S => exact fun ρ2 H2 σ2 e2 => h ρ2 H2 σ2 (e.trans e2)
  | exc x τ S => exact fun ρ2 H2 σ2 c d e2 => h ρ2 H2 σ2 c d (e.trans e2)
  | fail => exact h
theorem SOk.toE {α : Type} {K : PySem.W.Frag} {Wx : WX} {ρ : Rho} {H : Hp} {D : Ends} {r : Res α} {σ : L2.St} {τ : ASt} {k : α → Store → SRes} (s : StRep K ρ H σ τ) (h : SOk K Wx ρ H D (r.toS τ k)) : ROk K ρ H (fun a ρ1 S1 H1 => SOk K Wx ρ1 H1 D (k a S1)) (RX K Wx σ) r := by
  cases r with
  | ok a S => exact fun ρ' H' e q => SOk.start e h
  | exc x S => exact fun ρ' H' e q cls d xr => h ρ' H' σ cls d e q (s.evo e) xr
  | fail => exact h
def SRes.bind (r : SRes) (k : ASt → Store → SRes) : SRes := match r with
  | .next τ S => k τ S
  | r => r
@[simp] theorem SRes.bind_next (τ : ASt) (S : Store) (k : ASt → Store → SRes) : (SRes.next τ S).bind k = k τ S := rfl
@[simp] theorem SRes.bind_ret (w : W) (S : Store) (k : ASt → Store → SRes) : (SRes.ret w S).bind k = .ret w S := rfl
@[simp] theorem SRes.bind_brk (w : ASt) (S : Store) (k : ASt → Store → SRes) : (SRes.brk w S).bind k = .brk w S := rfl
@[simp] theorem SRes.bind_cnt (w : ASt) (S : Store) (k : ASt → Store → SRes) : (SRes.cnt w S).bind k = .cnt w S := rfl
@[simp] theorem SRes.bind_exc (x : XV) (w : ASt) (S : Store) (k : ASt → Store → SRes) : (SRes.exc x w S).bind k = .exc x w S := rfl
@[simp] theorem SRes.bind_fail (k : ASt → Store → SRes) : SRes.fail.bind k = .fail := rfl
theorem SOk.split {K : PySem.W.Frag} {Wx : WX} {ρ : Rho} {H : Hp} {D : Ends} {r : SRes} {k : ASt → Store → SRes} (h : SOk K Wx ρ H D (r.bind k)) : SOk K Wx ρ H { D with nx := RdS K Wx k D } r := by
  cases r with
  | next τ S => exact fun ρ2 H2 σ2 e2 q s => ⟨ρ2, S, τ, q, s, SOk.start e2 h⟩
  | ret τ S => exact h
  | brk τ S => exact h
  | cnt τ S => exact h
  | exc x τ S => exact h
  | fail => exact h
def mSkip : FS := fun τ S => .next τ S
def mSeq (f g : FS) : FS := fun τ S => (f τ S).bind g
section
variable {X : Cx} {Wx : WX} {e a b c o tg : Expr} {st : Stmt} {sts els : List Stmt} {es : List Expr} {f fa fb fc fo : FE} {g : FA} {ft fu : FT} {fs fs2 : FS} {gg : FG} {pos p2 : Pos}
theorem ss_nil : ASs X Wx [] mSkip := pssM pss_nil fun D σ H ⟨ρ, S, τ, h1, h2, h3⟩ => h3 ρ H σ Evo.refl h1 h2
theorem ss_cons (h : AS X Wx st fs) (hr : ASs X Wx sts fs2) : ASs X Wx (st :: sts) (mSeq fs fs2) := pssM (pss_cons h hr) fun D σ H ⟨ρ, S, τ, h1, h2, h3⟩ => ⟨ρ, S, τ, h1, h2, h3.split⟩
theorem ss_one (h : AS X Wx st fs) : ASs X Wx [st] fs := pss_one h
def mBreak : FS := fun τ S => .brk τ S
def mCont : FS := fun τ S => .cnt τ S
theorem s_pass : AS X Wx (.Pass pos) mSkip := psM ps_pass fun D σ H ⟨ρ, S, τ, h1, h2, h3⟩ => h3 ρ H σ Evo.refl h1 h2
theorem s_break : AS X Wx (.Break pos) mBreak := psM ps_break fun D σ H ⟨ρ, S, τ, h1, h2, h3⟩ => h3 ρ H σ Evo.refl h1 h2
theorem s_continue : AS X Wx (.Continue pos) mCont := psM ps_continue fun D σ H ⟨ρ, S, τ, h1, h2, h3⟩ => h3 ρ H σ Evo.refl h1 h2
def mExpr (f : FE) : FS := fun τ S => (f τ S).toS τ fun _ S1 => .next τ S1
theorem s_expr (he : AE X Wx e f) (hs : swapsWith e none pos.line X.env = pure false := by rfl) : AS X Wx (.Expr e pos) (mExpr f) := psM (ps_expr he hs) fun D σ H ⟨ρ, S, τ, h1, h2, h3⟩ =>
  RdE.mk h1 h2 (h3.toE h2) fun x ρ1 S1 H1 v e1 r1 s1 rv q1 => q1 ρ1 H1 σ Evo.refl r1 s1
def mRet (f : FE) : FS := fun τ S => (f τ S).toS τ fun w S1 => .ret w S1
theorem s_ret (he : AE X Wx e f) : AS X Wx (.Return (some e) pos) (mRet f) := psM (ps_ret he) fun D σ H ⟨ρ, S, τ, h1, h2, h3⟩ =>
  RdE.mk h1 h2 (h3.toE h2) fun x ρ1 S1 H1 v e1 r1 s1 rv q1 => q1 ρ1 H1 v Evo.refl r1 rv
def mRetN : FS := fun _ S => .ret .non S
theorem s_retN : AS X Wx (.Return none pos) mRetN := psM ps_retN fun D σ H ⟨ρ, S, τ, h1, h2, h3⟩ => h3 ρ H .non Evo.refl h1 .non
def mIfS (ft : FT) (f g : FS) : FS := fun τ S => (ft τ S).toS τ fun k S1 => if k = true then f τ S1 else g τ S1
theorem s_if (hc : AT X Wx c ft) (ha : ASs X Wx sts fs) (hb : ASs X Wx els fs2) : AS X Wx (.If c sts els pos) (mIfS ft fs fs2) := psM (ps_if hc ha hb) fun D σ H ⟨ρ, S, τ, h1, h2, h3⟩ =>
  RdT.mk h1 h2 (h3.toE h2) fun k ρ1 S1 H1 e1 r1 s1 q1 => by
    cases k with
    | true => exact ⟨ρ1, S1, τ, r1, s1, q1⟩
    | false => exact ⟨ρ1, S1, τ, r1, s1, q1⟩

/-! ### targets -/
def RdG (K : PySem.W.Frag) (Wx : WX) (g : FG) : TG := fun v σ H Q => ∃ ρ S τ w, Rel K ρ S H ∧ StRep K ρ H σ τ ∧ Rep K ρ H v w ∧ ROk K ρ H (fun τ' ρ' S' H' => ∀ σ', StRep K ρ' H' σ' τ' → Q σ' H') (RX K Wx σ) (g w τ S)
def AG (X : Cx) (Wx : WX) (tg : Expr) (g : FG) : Prop := PG X tg (RdG X.K Wx g)
abbrev FGs := List W → ASt → Store → Res ASt
def RdGs (K : PySem.W.Frag) (Wx : WX) (g : FGs) : TGs := fun vs σ H Q => ∃ ρ S τ ws, Rel K ρ S H ∧ StRep K ρ H σ τ ∧ RepL K ρ H vs ws ∧ ROk K ρ H (fun τ' ρ' S' H' => ∀ σ', StRep K ρ' H' σ' τ' → Q σ' H') (RX K Wx σ) (g ws τ S)
def AGs (X : Cx) (Wx : WX) (tgs : List Expr) (g : FGs) : Prop := PGs X tgs (RdGs X.K Wx g)
theorem pgsM {X : Cx} {es : List Expr} {t t' : TGs} (h : PGs X es t) (m : ∀ v σ H Q, t' v σ H Q → t v σ H Q) : PGs X es t' := ⟨fun pins s σ H v u Q I r q => h.run pins s σ H v u Q I r (m v σ H Q q)⟩
def gSet (i : Nat) : FG := fun w τ S => .ok (τ.set i (some w)) S
theorem g_name {i : Nat} {x : Str} (hN : X.N.Nodup) (hi : X.N[i]? = some x) (hx : Loc X.env.scope x) (hf : X.fn x = true ∨ X.env.scope.names.lookup x = some .local := by first | exact .inl rfl | exact .inr rfl | assumption) : AG X Wx (.Name x pos) (gSet i) :=
  pgM (pg_name hN hi hx hf) fun v σ H Q ⟨ρ, S, τ, w, h1, h2, h3, h4⟩ => h4.ok_now h1 _ (h2.set h3 i)
def gNilW : FGs := fun ws τ S => match ws with
  | [] => .ok τ S
  | _ => .fail
/-- plain names alone: no error between -/
def gConsW (g : FG) (gs : FGs) : FGs := fun ws τ S => match ws with
  | w :: r => (noX (g w τ S)).bind fun τ1 S1 => noX (gs r τ1 S1)
  | [] => .fail
theorem gs_nil : AGs X Wx [] gNilW := pgsM pgs_nil fun vs σ H Q ⟨ρ, S, τ, ws, h1, h2, h3, h4⟩ => by
  unfold gNilW at h4
  split at h4
  · cases h3; exact ⟨rfl, h4.ok_now h1 σ h2⟩
  · exact h4.elim
theorem gs_cons {gs : FGs} (h : AG X Wx e gg) (hr : AGs X Wx es gs) (ha : (assignEach (e :: es) X.env).map (·.2) = assign e X.env :: (assignEach es X.env).map (·.2) := by rfl) : AGs X Wx (e :: es) (gConsW gg gs) := pgsM (pgs_cons h hr ha) fun vs σ H Q ⟨ρ, S, τ, ws, h1, h2, h3, h4⟩ => by
  cases h3 with
  | nil => exact h4.elim
  | cons r1 r2 =>
    refine ⟨_, _, rfl, ρ, S, τ, _, h1, h2, r1, ?_⟩
    refine (noX_ok (Xc := RX X.K Wx σ) h4.split).imp (fun τ1 ρ1 S1 H1 e1 q1 z σ1 s1 => ?_) fun _ _ _ _ _ _ z => z
    exact ⟨ρ1, S1, τ1, _, q1, s1, r2.evo e1, noX_ok z⟩
def gTupW (n : Nat) (gs : FGs) : FG := fun w τ S => match seqT w with
  | some ws => if ws.length = n then gs ws τ S else .fail
  | none => .fail
theorem g_tup {gs : FGs} {k n : Nat} (hc : X.calm = true) (h : AGs X Wx es gs) (hn : (assignEach es X.env).length = n := by rfl) (hst : (assignEach es X.env).findIdx? (·.1) = none := by rfl) : AG X Wx (.Tuple es k pos) (gTupW n gs) :=
  pgM (pg_tup hc h hn hst) fun v σ H Q ⟨ρ, S, τ, w, h1, h2, h3, h4⟩ => by
    unfold gTupW at h4
    split at h4
    · rename_i ws ew
      split at h4
      · rename_i hl
        obtain ⟨ad, vs, rfl, t1, l1⟩ := seqT_sq h3 ew
        exact ⟨ad, vs, rfl, t1, by rw [l1.length]; exact hl, ρ, S, τ, ws, h1, h2, l1, h4⟩
      · exact h4.elim
    · exact h4.elim
def mAsg (f : FE) (g : FG) : FS := fun τ S => (f τ S).toS τ fun w S1 => (g w τ S1).toS τ fun τ2 S2 => .next τ2 S2
theorem mAsg_go {D : Ends} {σ : L2.St} {H : Hp} (h : RdS X.K Wx (mAsg f gg) D σ H) : tAsg (RdE X.K Wx f) (RdG X.K Wx gg) D σ H := by
  obtain ⟨ρ, S, τ, h1, h2, h3⟩ := h
  refine RdE.mk h1 h2 (h3.toE h2) fun x ρ1 S1 H1 v e1 r1 s1 rv q1 => ?_
  exact ⟨ρ1, S1, τ, x, r1, s1, rv, (q1.toE s1).imp (fun τ2 ρ2 S2 H2 e2 r2 z σ2 s2 => z ρ2 H2 σ2 Evo.refl r2 s2) fun _ _ _ _ _ _ z => z⟩
theorem s_asg (he : AE X Wx e f) (hg : AG X Wx tg gg) (hs : swapsWithSole [tg] e pos.line X.env = pure false := by rfl) (hw : swappedStores [tg] e X.env = pure none := by rfl)
    (h1 : (assignEach [tg] X.env).map (·.2) = [assign tg X.env] := by rfl) : AS X Wx (.Assign [tg] e pos) (mAsg f gg) := psM (ps_asg he hg hs hw h1) fun D σ H h => mAsg_go h
theorem s_set {i : Nat} {x : Str} {pos' : Pos} (hN : X.N.Nodup) (hi : X.N[i]? = some x) (hx : Loc X.env.scope x) (he : AE X Wx e f) (hs : swapsWith e (some (.Name x pos')) pos.line X.env = pure false := by rfl) (hf : X.fn x = true ∨ X.env.scope.names.lookup x = some .local := by first | exact .inl rfl | exact .inr rfl | assumption) :
    AS X Wx (.Assign [.Name x pos'] e pos) (mAsg f (gSet i)) := psM (ps_set hN hi hx he hs hf) fun D σ H ⟨ρ, S, τ, h1, h2, h3⟩ =>
  RdE.mk h1 h2 (h3.toE h2) fun y ρ1 S1 H1 v e1 r1 s1 rv q1 => q1 ρ1 H1 _ Evo.refl r1 (s1.set rv i)
/-- a, b = x, y -/
def mPar (i j : Nat) (g : FA) : FS := fun τ S => (g τ S).toS τ fun ws S1 => match ws with
  | [u, v] => .next ((τ.set i (some u)).set j (some v)) S1
  | _ => .fail
theorem s_par {i j : Nat} {x y : Str} {px py pt : Pos} {kt k2 pt2} (hc : X.calm = true) (hN : X.N.Nodup) (hi : X.N[i]? = some x) (hj : X.N[j]? = some y) (hij : i ≠ j)
    (hx : X.env.scope.names.lookup x = some .local) (hy : X.env.scope.names.lookup y = some .local) (ha : AA X Wx [a, b] g)
    (hw : swappedStores [.Tuple [.Name x px, .Name y py] kt pt] (.Tuple [a, b] k2 pt2) X.env = pure (some [x, y]))
    (hs : swapsWithSole [.Tuple [.Name x px, .Name y py] kt pt] (.Tuple [a, b] k2 pt2) pos.line X.env = pure false := by rfl) :
    AS X Wx (.Assign [.Tuple [.Name x px, .Name y py] kt pt] (.Tuple [a, b] k2 pt2) pos) (mPar i j g) := psM (ps_par hc hN hi hj hij hx hy ha hw hs) fun D σ H ⟨ρ, S, τ, h1, h2, h3⟩ =>
  RdA.mk h1 h2 (h3.toE h2) fun ws ρ1 S1 H1 vs e1 r1 s1 rvs q1 => by
    split at q1
    · obtain ⟨v, w, rfl, rv, rw_⟩ := repL2 rvs
      exact ⟨v, w, rfl, q1 ρ1 H1 _ Evo.refl r1 ((s1.set rv i).set rw_ j)⟩
    · exact q1.elim
def mPar3 (i j l : Nat) (g : FA) : FS := fun τ S => (g τ S).toS τ fun ws S1 => match ws with
  | [u, v, w] => .next (((τ.set i (some u)).set j (some v)).set l (some w)) S1
  | _ => .fail
theorem s_par3 {i j l : Nat} {x y z : Str} {px py pz pt : Pos} {kt k2 pt2} (hc : X.calm = true) (hN : X.N.Nodup) (hi : X.N[i]? = some x) (hj : X.N[j]? = some y) (hl : X.N[l]? = some z) (hij : i ≠ j) (hil : i ≠ l) (hjl : j ≠ l)
    (hx : X.env.scope.names.lookup x = some .local) (hy : X.env.scope.names.lookup y = some .local) (hz : X.env.scope.names.lookup z = some .local) (ha : AA X Wx [a, b, c] g)
    (hw : swappedStores [.Tuple [.Name x px, .Name y py, .Name z pz] kt pt] (.Tuple [a, b, c] k2 pt2) X.env = pure (some [x, y, z]))
    (hs : swapsWithSole [.Tuple [.Name x px, .Name y py, .Name z pz] kt pt] (.Tuple [a, b, c] k2 pt2) pos.line X.env = pure false := by rfl) :
    AS X Wx (.Assign [.Tuple [.Name x px, .Name y py, .Name z pz] kt pt] (.Tuple [a, b, c] k2 pt2) pos) (mPar3 i j l g) := psM (ps_par3 hc hN hi hj hl hij hil hjl hx hy hz ha hw hs) fun D σ H ⟨ρ, S, τ, h1, h2, h3⟩ =>
  RdA.mk h1 h2 (h3.toE h2) fun ws ρ1 S1 H1 vs e1 r1 s1 rvs q1 => by
    split at q1
    · cases rvs with
      | cons ru rr =>
        obtain ⟨v, w, rfl, rv, rw_⟩ := repL2 rr
        exact ⟨_, v, w, rfl, q1 ρ1 H1 _ Evo.refl r1 (((s1.set ru i).set rv j).set rw_ l)⟩
    · exact q1.elim
/-! ### x op= e -/
def mAug (i : Nat) (o : W → W → Store → Res W) (f : FE) : FS := fun τ S => match τ[i]? with
  | some (some x) => (f τ S).toS τ fun y S1 => (noX (o x y S1)).toS τ fun z S2 => .next (τ.set i (some z)) S2
  | _ => .fail
def IpA (X : Cx) (op : Operator) (o : W → W → Store → Res W) : Prop := PIp X op (rdOp X.K o)
theorem s_aug {i : Nat} {x : Str} {op : Operator} {o : W → W → Store → Res W} {pos' : Pos} (hN : X.N.Nodup) (hi : X.N[i]? = some x) (hx : Loc X.env.scope x) (he : AE X Wx e f) (ho : IpA X op o) (hf : X.fn x = true ∨ X.env.scope.names.lookup x = some .local := by first | exact .inl rfl | exact .inr rfl | assumption) :
    AS X Wx (.AugAssign (.Name x pos') op e pos) (mAug i o f) := psM (ps_aug hN hi hx he ho hf) fun D σ H ⟨ρ, S, τ, h1, h2, h3⟩ => by
  unfold mAug at h3
  split at h3
  · rename_i w ew
    obtain ⟨v, ev, rv⟩ := h2.2 i w ew
    refine ⟨v, ev, RdE.mk h1 h2 (h3.toE h2) fun y ρ1 S1 H1 u e1 r1 s1 ru q1 => ?_⟩
    refine ⟨ρ1, S1, w, y, r1, rv.evo e1, ru, ?_⟩
    refine (noX_ok (Xc := RX X.K Wx σ) (Xc' := fun _ _ _ _ => False) (q1.toE s1)).imp (fun z ρ2 S2 H2 e2 r2 q2 v2 rv2 => ?_) fun _ _ _ _ _ _ z => z
    exact q2 ρ2 H2 _ Evo.refl r2 ((s1.evo e2).set rv2 i)
  · exact h3.elim
end
end Eng
namespace Eng
open PySem PySem.Spec PyProof.Rows L2

/-! ### what is walked -/
inductive Wk where
  /-- these items -/
  | items (xs : List W)
  /-- a list of the store, as it stands at each turn -/
  | ref (n : Nat) (len : Nat)
abbrev FI := ASt → Store → Res Wk
def Wk.len : Wk → Nat
  | .items xs => xs.length
  | .ref _ m => m
def Wk.item (k : Wk) (i : Nat) (S : Store) : Option W := match k with
  | .items xs => xs[i]?
  | .ref n _ => match S[n]? with
    | some (.lst ys) => ys[i]?
    | _ => none
def Wk.stop (k : Wk) (i : Nat) (S : Store) : Bool := match k with
  | .items xs => decide (xs.length = i)
  | .ref n _ => match S[n]? with
    | some (.lst ys) => decide (ys.length ≤ i)
    | _ => false
def WalkRep (K : PySem.W.Frag) (ρ : Rho) (H : Hp) (k : Wk) (J : It) : Prop := ∀ ρ2 S2 H2, Ext ρ H ρ2 H2 → Rel K ρ2 S2 H2 →
  (∀ i w, k.item i S2 = some w → J.go i H2 ∧ ∀ x H3, J.yld i H2 x H3 → Evo ρ2 H2 ρ2 H3 ∧ Rel K ρ2 S2 H3 ∧ Rep K ρ2 H3 x w) ∧ (∀ i, k.stop i S2 = true → J.stop i H2)
def RdI (K : PySem.W.Frag) (Wx : WX) (f : FI) : TI := fun σ H R => ∃ ρ S τ, Rel K ρ S H ∧ StRep K ρ H σ τ ∧ ROk K ρ H (fun k ρ' S' H' => ∀ J, WalkRep K ρ' H' k J → R J H') (RX K Wx σ) (f τ S)
def AI (X : Cx) (Wx : WX) (tg it : Expr) (f : FI) : Prop := PI X tg it (RdI X.K Wx f)
theorem WalkRep.evo {K : PySem.W.Frag} {ρ ρ' : Rho} {H H' : Hp} {k : Wk} {J : It} (e : Evo ρ H ρ' H') (h : WalkRep K ρ H k J) : WalkRep K ρ' H' k J := fun ρ2 S2 H2 e2 r => h ρ2 S2 H2 (e.toExt.trans e2) r
theorem walkL {K : PySem.W.Frag} {ρ : Rho} {H : Hp} {a : Addr} {vs : List V} {ws : List W} (h : LstAt ρ H a vs) (r : RepL K ρ H vs ws) : WalkRep K ρ H (.items ws) (Itl K a) := fun ρ2 S2 H2 e rl => by
  have h2 : SqL K H2 a vs := (h.evo e).sq
  have r2 := r.ext e
  refine ⟨fun i w hi => ?_, fun i hi => ?_⟩
  · obtain ⟨v, e1, rv⟩ := r2.get hi
    refine ⟨⟨vs, v, h2, e1⟩, fun x H3 y => ?_⟩
    obtain ⟨rfl, y⟩ := y
    have := y vs h2
    rw [e1] at this
    cases this
    exact ⟨Evo.refl, rl, rv⟩
  · have hi' : ws.length ≤ i := Nat.le_of_eq (of_decide_eq_true hi)
    exact ⟨vs, h2, by rw [r2.length]; exact hi'⟩
theorem walkS {K : PySem.W.Frag} {ρ : Rho} {H : Hp} {a : Addr} {ns : List Int} (h : ScrAt K ρ H a (ns.map V.int)) : WalkRep K ρ H (.items (ns.map W.int)) (Itl K a) := fun ρ2 S2 H2 e rl => by
  have h2 : SqL K H2 a (ns.map V.int) := (h.evo e).sq
  have r2 : RepL K ρ2 H2 (ns.map V.int) (ns.map W.int) := RepL.ints _
  refine ⟨fun i w hi => ?_, fun i hi => ?_⟩
  · obtain ⟨v, e1, rv⟩ := r2.get hi
    refine ⟨⟨_, v, h2, e1⟩, fun x H3 y => ?_⟩
    obtain ⟨rfl, y⟩ := y
    have := y _ h2
    rw [e1] at this
    cases this
    exact ⟨Evo.refl, rl, rv⟩
  · have hi' : (ns.map W.int).length ≤ i := Nat.le_of_eq (of_decide_eq_true hi)
    exact ⟨_, h2, by rw [r2.length]; exact hi'⟩
theorem walkT {K : PySem.W.Frag} {ρ : Rho} {H : Hp} {a : Addr} {vs : List V} {ws : List W} (h : ∀ ρ2 H2, Ext ρ H ρ2 H2 → SqT K H2 a vs) (r : RepL K ρ H vs ws) : WalkRep K ρ H (.items ws) (Itt K a) := fun ρ2 S2 H2 e rl => by
  have h2 : SqT K H2 a vs := h ρ2 H2 e
  have r2 := r.ext e
  refine ⟨fun i w hi => ?_, fun i hi => ?_⟩
  · obtain ⟨v, e1, rv⟩ := r2.get hi
    refine ⟨⟨vs, v, h2, e1⟩, fun x H3 y => ?_⟩
    obtain ⟨rfl, y⟩ := y
    have := y vs h2
    rw [e1] at this
    cases this
    exact ⟨Evo.refl, rl, rv⟩
  · have hi' : ws.length ≤ i := Nat.le_of_eq (of_decide_eq_true hi)
    exact ⟨vs, h2, by rw [r2.length]; exact hi'⟩
theorem walkR {K : PySem.W.Frag} {ρ : Rho} {H : Hp} {a : Addr} {n m : Nat} (h : ρ.refs[n]? = some a) : WalkRep K ρ H (.ref n m) (Itl K a) := fun ρ2 S2 H2 e rl => by
  have hn := e.ix h
  refine ⟨fun i w hi => ?_, fun i hi => ?_⟩
  · unfold Wk.item at hi
    simp only at hi
    split at hi
    · rename_i ys es
      obtain ⟨vs, h1, h2⟩ := ref_lst rl hn es
      obtain ⟨v, e1, rv⟩ := h2.get hi
      refine ⟨⟨vs, v, .inl (.inl h1), e1⟩, fun x H3 y => ?_⟩
      obtain ⟨rfl, y⟩ := y
      have := y vs (.inl (.inl h1))
      rw [e1] at this
      cases this
      exact ⟨Evo.refl, rl, rv⟩
    · cases hi
  · unfold Wk.stop at hi
    simp only at hi
    split at hi
    · rename_i ys es
      obtain ⟨vs, h1, h2⟩ := ref_lst rl hn es
      have hi' : ys.length ≤ i := of_decide_eq_true hi
      exact ⟨vs, .inl (.inl h1), by rw [h2.length]; exact hi'⟩
    · cases hi
def rangeW (lo : Int) (n : Nat) : List W := (List.range n).map fun i => .int (lo + (i : Nat))
theorem walkRange {K : PySem.W.Frag} {ρ : Rho} {H : Hp} {lo : Int} {n : Nat} : WalkRep K ρ H (.items (rangeW lo n)) (Itr lo n) := fun ρ2 S2 H2 e rl => by
  refine ⟨fun i w hi => ?_, fun i hi => ?_⟩
  · have hi : (rangeW lo n)[i]? = some w := hi
    have hl : i < n := by
      have := (List.getElem?_eq_some_iff.mp hi).1
      simpa [rangeW] using this
    rw [rangeW, List.getElem?_map, List.getElem?_range hl] at hi
    cases hi
    refine ⟨hl, fun x H3 y => ?_⟩
    obtain ⟨rfl, rfl⟩ := y
    exact ⟨Evo.refl, rl, .int⟩
  · have hi' : (rangeW lo n).length ≤ i := Nat.le_of_eq (of_decide_eq_true hi)
    show n ≤ i
    simpa [rangeW] using hi'
theorem walkStr {K : PySem.W.Frag} {ρ : Rho} {H : Hp} {z : Str} (hz : okS z = true) : WalkRep K ρ H (.items (signsW z)) (Its z) := fun ρ2 S2 H2 e rl => by
  have hl : (signsW z).length = z.cps.size := by simp [signsW, signsS]
  refine ⟨fun i w hi => ?_, fun i hi => ?_⟩
  · have hi : (signsW z)[i]? = some w := hi
    have hlt : i < z.cps.size := by rw [← hl]; exact (List.getElem?_eq_some_iff.mp hi).1
    refine ⟨hlt, fun x H3 y => ?_⟩
    obtain ⟨rfl, c, hc, rfl⟩ := y
    have e1 : (signsS z)[i]? = some ⟨#[c]⟩ := by rw [signsS, List.getElem?_map, Array.getElem?_toList, hc]; rfl
    rw [signsW, List.getElem?_map, e1] at hi
    cases hi
    exact ⟨Evo.refl, rl, .str (okS_signs hz _ (List.mem_of_getElem? e1))⟩
  · have hi' : (signsW z).length ≤ i := Nat.le_of_eq (of_decide_eq_true hi)
    show z.cps.size ≤ i
    rw [← hl]; exact hi'
section
variable {X : Cx} {Wx : WX} {e a b c o tg it : Expr} {st : Stmt} {sts els : List Stmt} {es : List Expr} {f fa fb fc fo : FE} {g : FA} {ft fu : FT} {fs fs2 : FS} {gg : FG} {fi : FI} {pos p2 : Pos}
/-- for x in a list -/
def mWkL (f : FE) : FI := fun τ S => (f τ S).bind fun w S1 => match w with
  | .lst xs => .ok (.items xs) S1
  | .scr ns => .ok (.items (ns.map W.int)) S1
  | .ref n => match S1[n]? with
    | some (.lst ys) => .ok (.ref n ys.length) S1
    | _ => .fail
  | _ => .fail
theorem i_list (h : AE X Wx it f) : AI X Wx tg it (mWkL f) := piM (pi_list h) fun σ H Q ⟨ρ, S, τ, h1, h2, h3⟩ => by
  refine RdE.mk h1 h2 h3.split fun x ρ1 S1 H1 v e1 r1 s1 rv q1 => ?_
  cases rv with
  | lst hl hr => exact ⟨_, rfl, ⟨_, hl.sq⟩, q1.ok_now r1 _ (walkL hl hr)⟩
  | scr hs => exact ⟨_, rfl, ⟨_, hs.sq⟩, q1.ok_now r1 _ (walkS hs)⟩
  | ref hn =>
    simp only at q1
    split at q1
    · rename_i ys es'
      obtain ⟨vs, h4, h5⟩ := ref_lst r1 hn es'
      exact ⟨_, rfl, ⟨_, .inl (.inl h4)⟩, q1.ok_now r1 _ (walkR hn)⟩
    · exact q1.elim
  | _ => exact q1.elim
def mWkT (f : FE) : FI := fun τ S => (f τ S).bind fun w S1 => match w with
  | .tup xs => .ok (.items xs) S1
  | .ktup xs => .ok (.items xs) S1
  | _ => .fail
theorem i_tup (h : AE X Wx it f) : AI X Wx tg it (mWkT f) := piM (pi_tup h) fun σ H Q ⟨ρ, S, τ, h1, h2, h3⟩ => by
  refine RdE.mk h1 h2 h3.split fun x ρ1 S1 H1 v e1 r1 s1 rv q1 => ?_
  cases rv with
  | tup hl hr => exact ⟨_, rfl, ⟨_, hl.sq⟩, q1.ok_now r1 _ (walkT (fun _ _ e => (hl.evo e).sq) hr)⟩
  | ktup hl hr => exact ⟨_, rfl, ⟨_, KT.sq hl⟩, q1.ok_now r1 _ (walkT (fun _ _ e => KT.sq hl) hr)⟩
  | _ => exact q1.elim
def mWkS (f : FE) : FI := fun τ S => (f τ S).bind fun w S1 => match w with
  | .str z => .ok (.items (signsW z)) S1
  | _ => .fail
theorem i_str (h : AE X Wx it f) : AI X Wx tg it (mWkS f) := piM (pi_str h) fun σ H Q ⟨ρ, S, τ, h1, h2, h3⟩ => by
  refine RdE.mk h1 h2 h3.split fun x ρ1 S1 H1 v e1 r1 s1 rv q1 => ?_
  cases rv with
  | str hz => exact ⟨_, rfl, q1.ok_now r1 _ (walkStr hz)⟩
  | _ => exact q1.elim
/-- of whatever kind: a list, a tuple, a text -/
def mWk (f : FE) : FI := fun τ S => (f τ S).bind fun w S1 => match w with
  | .str z => .ok (.items (signsW z)) S1
  | .tup xs => .ok (.items xs) S1
  | .ktup xs => .ok (.items xs) S1
  | .lst xs => .ok (.items xs) S1
  | .scr ns => .ok (.items (ns.map W.int)) S1
  | .ref n => match S1[n]? with
    | some (.lst ys) => .ok (.ref n ys.length) S1
    | _ => .fail
  | _ => .fail
theorem i_any (h : AE X Wx it f) : AI X Wx tg it (mWk f) := ⟨fun pins s σ H R I ⟨ρ, S, τ, h1, h2, h3⟩ => by
  have z := h.run pins s σ H (fun v H1 => (∃ x, v = .str x ∧ R (Its x) H1) ∨ (∃ a, v = .ref a ∧ (∃ xs, SqT X.K H1 a xs) ∧ R (Itt X.K a) H1) ∨ (∃ a, v = .ref a ∧ (∃ xs, SqL X.K H1 a xs) ∧ R (Itl X.K a) H1)) I ?_
  · refine thn z fun v s1 ⟨y, H1, I1, r1, q⟩ => ?_
    rcases q with ⟨x, rfl, q⟩ | ⟨ad, rfl, ⟨xs, hq⟩, q⟩ | ⟨ad, rfl, ⟨xs, hq⟩, q⟩
    · obtain ⟨t, rfl⟩ := r1
      cases ha : x.cps.all (· < 128)
      · exact wpAny_pyIter_wide ha (pi_one (tk := s1.toks) I1 _ (turn_str _ x t "str_iterator" (.inr rfl)) ⟨_, Heap.get?_push_size _ rfl, rfl, rfl⟩ q)
      · exact wpAny_pyIter_ascii ha (pi_one (tk := s1.toks) I1 _ (turn_str _ x t "str_ascii_iterator" (.inl rfl)) ⟨_, Heap.get?_push_size _ rfl, rfl, rfl⟩ q)
    · cases r1
      obtain ⟨its, rv, p, hz⟩ := I1.tuple hq
      refine wpAny_pyIter_tuple (show s1.heap.IsTuple ad its.toArray from p) ?_
      refine ⟨s1.heap.objs.size, [s1.heap.objs.size], _, _, H1, rfl, I1.kept (t' := s1.toks) fun b o e => Heap.get?_push_of_some _ e, turn_tuple ad _, ⟨_, Heap.get?_push_size _ rfl, rfl, rfl⟩, fun b hb => ?_, q⟩
      have e : b = s1.heap.objs.size := by simpa using hb
      subst e
      exact I1.fpOk (Nat.le_refl _) (I1.hok.fresh (Nat.le_refl _))
    · cases r1
      obtain ⟨its, rv, p, hz⟩ := I1.list hq
      refine wpAny_pyIter_list p.isList ?_
      refine ⟨s1.heap.objs.size, [s1.heap.objs.size], _, _, H1, rfl, I1.kept (t' := s1.toks) fun b o e => Heap.get?_push_of_some _ e, turn_list ad _, ⟨_, Heap.get?_push_size _ rfl, rfl, rfl⟩, fun b hb => ?_, q⟩
      have e : b = s1.heap.objs.size := by simpa using hb
      subst e
      exact I1.fpOk (Nat.le_refl _) (I1.hok.fresh (Nat.le_refl _))
  · refine RdE.mk h1 h2 h3.split fun x ρ1 S1 H1 v e1 r1 s1 rv q1 => ?_
    cases rv with
    | str hz => exact .inl ⟨_, rfl, q1.ok_now r1 _ (walkStr hz)⟩
    | tup hl hr => exact .inr (.inl ⟨_, rfl, ⟨_, hl.sq⟩, q1.ok_now r1 _ (walkT (fun _ _ e => (hl.evo e).sq) hr)⟩)
    | ktup hl hr => exact .inr (.inl ⟨_, rfl, ⟨_, KT.sq hl⟩, q1.ok_now r1 _ (walkT (fun _ _ e => KT.sq hl) hr)⟩)
    | lst hl hr => exact .inr (.inr ⟨_, rfl, ⟨_, hl.sq⟩, q1.ok_now r1 _ (walkL hl hr)⟩)
    | scr hs => exact .inr (.inr ⟨_, rfl, ⟨_, hs.sq⟩, q1.ok_now r1 _ (walkS hs)⟩)
    | ref hn =>
      simp only at q1
      split at q1
      · rename_i ys es'
        obtain ⟨vs, h4, h5⟩ := ref_lst r1 hn es'
        exact .inr (.inr ⟨_, rfl, ⟨_, .inl (.inl h4)⟩, q1.ok_now r1 _ (walkR hn)⟩)
      · exact q1.elim
    | _ => exact q1.elim⟩
def mRng1 (g : FA) : FI := fun τ S => (g τ S).bind fun ws S1 => match ws with
  | [.int j] => if -(2 ^ 62) ≤ j ∧ j < 2 ^ 62 then .ok (.items (rangeW 0 j.toNat)) S1 else .fail
  | _ => .fail
def mRng2 (g : FA) : FI := fun τ S => (g τ S).bind fun ws S1 => match ws with
  | [.int i, .int j] => if -(2 ^ 62) ≤ i ∧ i < 2 ^ 62 ∧ -(2 ^ 62) ≤ j ∧ j < 2 ^ 62 then .ok (.items (rangeW i (j - i).toNat)) S1 else .fail
  | _ => .fail
theorem i_range1 {p : Pos} (hg : Gl X "range") (hm : X.mg "range" = none) (ha : AA X Wx [a] g) (hs : starEach [a] X.env = [(false, eval a X.env)] := by rfl) : AI X Wx tg (.Call (.Name "range" p) [a] [] pos) (mRng1 g) :=
  piM (pi_range1 hg hm ha hs) fun σ H Q ⟨ρ, S, τ, h1, h2, h3⟩ => by
    refine RdA.mk h1 h2 h3.split fun ws ρ1 S1 H1 vs e1 r1 s1 rvs q1 => ?_
    split at q1
    · split at q1
      · rename_i hj
        obtain ⟨v, rfl, rv⟩ := repL1 rvs
        cases rv
        exact ⟨_, rfl, hj.1, hj.2, q1.ok_now r1 _ walkRange⟩
      · exact q1.elim
    · exact q1.elim
theorem i_range2 {p : Pos} (hg : Gl X "range") (hm : X.mg "range" = none) (ha : AA X Wx [a, b] g) (hs : starEach [a, b] X.env = [(false, eval a X.env), (false, eval b X.env)] := by rfl) (hs2 : starEach [b] X.env = [(false, eval b X.env)] := by rfl) : AI X Wx tg (.Call (.Name "range" p) [a, b] [] pos) (mRng2 g) :=
  piM (pi_range2 hg hm ha hs hs2) fun σ H Q ⟨ρ, S, τ, h1, h2, h3⟩ => by
    refine RdA.mk h1 h2 h3.split fun ws ρ1 S1 H1 vs e1 r1 s1 rvs q1 => ?_
    split at q1
    · split at q1
      · rename_i hj
        obtain ⟨v, w, rfl, rv, rw_⟩ := repL2 rvs
        cases rv
        cases rw_
        exact ⟨_, _, rfl, hj, q1.ok_now r1 _ walkRange⟩
      · exact q1.elim
    · exact q1.elim

/-! ### for -/
/-- the loop: i is the turn, m what is left -/
def forGo (k : Wk) (g : FG) (body : FS) : Nat → Nat → ASt → Store → SRes
  | 0, i, τ, S => if k.stop i S = true then .next τ S else .fail
  | m + 1, i, τ, S => match k.item i S with
    | none => .fail
    | some w => (g w τ S).toS τ fun τ1 S1 => match body τ1 S1 with
      | .next τ2 S2 => forGo k g body m (i + 1) τ2 S2
      | .cnt τ2 S2 => forGo k g body m (i + 1) τ2 S2
      | .brk τ2 S2 => .next τ2 S2
      | r => r
def mFor (fi : FI) (g : FG) (body : FS) : FS := fun τ S => (fi τ S).toS τ fun k S1 => forGo k g body k.len 0 τ S1
theorem s_for (hp : PassesOwn (model X.prog X.w) X.A X.env X.xe) (hc : X.calm = true) (hi : AI X Wx tg it fi) (hg : AG X Wx tg gg) (hb : ASs X Wx sts fs)
    (hs : ∀ x, foldedSetIterable it X.env x = pure x := by intro _; rfl) : AS X Wx (.For tg it sts [] pos) (mFor fi gg fs) := psM (ps_for hp hc hi hg hb hs) fun D σ H ⟨ρ, S, τ, h1, h2, h3⟩ => by
  refine ⟨ρ, S, τ, h1, h2, (h3.toE h2).imp (fun k ρ1 S1 H1 e1 r1 q1 J wk => ?_) fun _ _ _ _ _ _ z => z⟩
  refine ⟨fun i m σ2 H2 => ∃ ρ2 S2 τ2, Evo ρ1 H1 ρ2 H2 ∧ Rel X.K ρ2 S2 H2 ∧ StRep X.K ρ2 H2 σ2 τ2 ∧ SOk X.K Wx ρ2 H2 D (forGo k gg fs m i τ2 S2), ⟨k.len, ρ1, S1, τ, Evo.refl, r1, h2.evo e1, q1⟩, ?_⟩
  rintro i m σ2 H2 ⟨ρ2, S2, τ2, ev2, r2, s2, q2⟩
  obtain ⟨wi, ws⟩ := wk ρ2 S2 H2 ev2.toExt r2
  cases m with
  | zero =>
    unfold forGo at q2
    split at q2
    · rename_i hst
      exact .inl ⟨ws i hst, q2 ρ2 H2 σ2 Evo.refl r2 s2⟩
    · exact q2.elim
  | succ m =>
    unfold forGo at q2
    split at q2
    · exact q2.elim
    · rename_i w ew
      obtain ⟨go, yl⟩ := wi i w ew
      refine .inr ⟨go, fun σ3 H3 => ∃ ρ3 S3 τ3, Evo ρ1 H1 ρ3 H3 ∧ Rel X.K ρ3 S3 H3 ∧ StRep X.K ρ3 H3 σ3 τ3 ∧ SOk X.K Wx ρ3 H3 D (forGo k gg fs m (i + 1) τ3 S3), fun σ3 H3 h => ⟨m, Nat.lt_succ_self _, h⟩, fun x H3 hy => ?_⟩
      obtain ⟨ev3, r3, rx⟩ := yl x H3 hy
      refine ⟨ρ2, S2, τ2, w, r3, s2.evo ev3, rx, ((SOk.start ev3 q2).toE (s2.evo ev3)).imp (fun τ4 ρ4 S4 H4 e4 r4 q4 σ4 s4 => ?_) fun _ _ _ _ _ _ z => z⟩
      refine ⟨ρ4, S4, τ4, r4, s4, ?_⟩
      have evAll : Evo ρ1 H1 ρ4 H4 := ev2.trans (ev3.trans e4)
      revert q4
      cases hbd : fs τ4 S4 with
      | next τ5 S5 => exact fun q4 ρ6 H6 σ6 e6 r6 s6 => ⟨ρ6, S5, τ5, evAll.trans e6, r6, s6, SOk.start e6 q4⟩
      | cnt τ5 S5 => exact fun q4 ρ6 H6 σ6 e6 r6 s6 => ⟨ρ6, S5, τ5, evAll.trans e6, r6, s6, SOk.start e6 q4⟩
      | brk τ5 S5 => exact fun q4 => q4
      | ret w5 S5 => exact fun q4 => q4
      | exc x5 τ5 S5 => exact fun q4 => q4
      | fail => exact fun q4 => q4
/-! ### while, at most so many turns -/
def whileGo (ft : FT) (body : FS) : Nat → ASt → Store → SRes
  | 0, _, _ => .fail
  | m + 1, τ, S => (ft τ S).toS τ fun k S1 => if k = true then match body τ S1 with
      | .next τ2 S2 => whileGo ft body m τ2 S2
      | .cnt τ2 S2 => whileGo ft body m τ2 S2
      | .brk τ2 S2 => .next τ2 S2
      | r => r
    else .next τ S1
def mWhile (m : Nat) (ft : FT) (body : FS) : FS := fun τ S => whileGo ft body m τ S
theorem s_while (m : Nat) (hp : PassesOwn (model X.prog X.w) X.A X.env X.xe) (hc : AT X Wx c ft) (hb : ASs X Wx sts fs) : AS X Wx (.While c sts [] pos) (mWhile m ft fs) := psM (ps_while hp hc hb) fun D σ H ⟨ρ, S, τ, h1, h2, h3⟩ => by
  refine ⟨fun m σ2 H2 => ∃ ρ2 S2 τ2, Rel X.K ρ2 S2 H2 ∧ StRep X.K ρ2 H2 σ2 τ2 ∧ SOk X.K Wx ρ2 H2 D (whileGo ft fs m τ2 S2), ⟨m, ρ, S, τ, h1, h2, h3⟩, ?_⟩
  rintro m σ2 H2 ⟨ρ2, S2, τ2, r2, s2, q2⟩
  cases m with
  | zero => exact q2.elim
  | succ m =>
    unfold whileGo at q2
    refine RdT.mk r2 s2 (q2.toE s2) fun k ρ3 S3 H3 e3 r3 s3 q3 => ?_
    cases k with
    | false => exact q3 ρ3 H3 σ2 Evo.refl r3 s3
    | true =>
      refine ⟨fun σ5 H5 => ∃ ρ5 S5 τ5, Rel X.K ρ5 S5 H5 ∧ StRep X.K ρ5 H5 σ5 τ5 ∧ SOk X.K Wx ρ5 H5 D (whileGo ft fs m τ5 S5), fun σ5 H5 h => ⟨m, Nat.lt_succ_self _, h⟩, ρ3, S3, τ2, r3, s3, ?_⟩
      revert q3
      simp only [if_true]
      cases hbd : fs τ2 S3 with
      | next τ5 S5 => exact fun q4 ρ6 H6 σ6 e6 r6 s6 => ⟨ρ6, S5, τ5, r6, s6, SOk.start e6 q4⟩
      | cnt τ5 S5 => exact fun q4 ρ6 H6 σ6 e6 r6 s6 => ⟨ρ6, S5, τ5, r6, s6, SOk.start e6 q4⟩
      | brk τ5 S5 => exact fun q4 => q4
      | ret w5 S5 => exact fun q4 => q4
      | exc x5 τ5 S5 => exact fun q4 => q4
      | fail => exact fun q4 => q4
end
end Eng
namespace Eng
open PySem PySem.Spec PyProof.Rows L2

/-! ### list comprehensions -/
def wipeW (τ : ASt) : List Nat → ASt
  | [] => τ
  | v :: vs => (wipeW τ vs).set v none
theorem StRep.unset {K : PySem.W.Frag} {ρ : Rho} {H : Hp} {σ : L2.St} {τ : ASt} (h : StRep K ρ H σ τ) (i : Nat) : StRep K ρ H (σ.set i none) (τ.set i none) := by
  refine ⟨by simp [h.1], fun j x q => ?_⟩
  by_cases e : j = i
  · subst e
    by_cases hj : j < τ.length
    · rw [List.getElem?_set_self hj] at q
      cases q
    · rw [List.getElem?_eq_none (by simpa using hj)] at q
      cases q
  · rw [List.getElem?_set_ne (Ne.symm e)] at q
    obtain ⟨u, e1, r1⟩ := h.2 j x q
    exact ⟨u, by rw [List.getElem?_set_ne (Ne.symm e)]; exact e1, r1⟩
theorem StRep.wipe {K : PySem.W.Frag} {ρ : Rho} {H : Hp} {σ : L2.St} {τ : ASt} (h : StRep K ρ H σ τ) : ∀ vs : List Nat, StRep K ρ H (L2.wipe σ vs) (wipeW τ vs)
  | [] => h
  | v :: vs => (StRep.wipe h vs).unset v
/-- a target of plain names: what HandS reads, what it does to the slots -/
structure CG (K : PySem.W.Frag) (t : TG) (g : W → ASt → Option ASt) (vs : List Nat) : Prop where
  go : ∀ {ρ : Rho} {H : Hp} {σ : L2.St} {τ τ' : ASt} {v : V} {w : W} {Q : L2.St → Hp → Prop}, StRep K ρ H σ τ → Rep K ρ H v w → g w τ = some τ' → (∀ σ', StRep K ρ H σ' τ' → L2.wipe σ' vs = L2.wipe σ vs → Q σ' H) → t v σ H Q
structure CGs (K : PySem.W.Frag) (t : TGs) (g : List W → ASt → Option ASt) (vs : List Nat) : Prop where
  go : ∀ {ρ : Rho} {H : Hp} {σ : L2.St} {τ τ' : ASt} {v : List V} {w : List W} {Q : L2.St → Hp → Prop}, StRep K ρ H σ τ → RepL K ρ H v w → g w τ = some τ' → (∀ σ', StRep K ρ H σ' τ' → L2.wipe σ' vs = L2.wipe σ vs → Q σ' H) → t v σ H Q
theorem wipe_set {σ : L2.St} {i : Nat} {x : Option V} : ∀ {vs : List Nat}, i ∈ vs → L2.wipe (σ.set i x) vs = L2.wipe σ vs
  | [], h => by cases h
  | v :: vs, h => by
    unfold L2.wipe
    by_cases e : i ∈ vs
    · rw [wipe_set e]
    · have ev : i = v := by
        rcases List.mem_cons.mp h with z | z
        · exact z
        · exact absurd z e
      subst ev
      have aux : ∀ (us : List Nat) (σ : L2.St), i ∉ us → L2.wipe (σ.set i x) us = (L2.wipe σ us).set i x := by
        intro us
        induction us with
        | nil => intro σ _; rfl
        | cons u us ih =>
          intro σ hn
          simp only [List.mem_cons, not_or] at hn
          unfold L2.wipe
          rw [ih σ hn.2, List.set_comm _ _ hn.1]
      rw [aux vs σ e, List.set_set]
theorem wipe_wipe {σ : L2.St} {vs : List Nat} : ∀ {us : List Nat}, (∀ i ∈ us, i ∈ vs) → L2.wipe (L2.wipe σ us) vs = L2.wipe σ vs
  | [], _ => rfl
  | u :: us, h => by
    show L2.wipe ((L2.wipe σ us).set u none) vs = _
    rw [wipe_set (h u List.mem_cons_self)]
    exact wipe_wipe fun i hi => h i (List.mem_cons_of_mem _ hi)
def cName (i : Nat) : W → ASt → Option ASt := fun w τ => some (τ.set i (some w))
theorem cg_name {K : PySem.W.Frag} {i : Nat} {vs : List Nat} (h : i ∈ vs) : CG K (gName i) (cName i) vs := ⟨fun {ρ H σ τ τ' v w Q} h1 h2 h3 h4 => by
  cases h3
  exact h4 _ (h1.set h2 i) (wipe_set h)⟩
def cNil : List W → ASt → Option ASt := fun ws τ => match ws with
  | [] => some τ
  | _ => none
def cCons (g : W → ASt → Option ASt) (gs : List W → ASt → Option ASt) : List W → ASt → Option ASt := fun ws τ => match ws with
  | w :: r => match g w τ with
    | some τ1 => gs r τ1
    | none => none
  | [] => none
def cTup (n : Nat) (gs : List W → ASt → Option ASt) : W → ASt → Option ASt := fun w τ => match seqT w with
  | some ws => if ws.length = n then gs ws τ else none
  | none => none
theorem cgs_nil {K : PySem.W.Frag} {vs : List Nat} : CGs K gNil cNil vs := ⟨fun {ρ H σ τ τ' v w Q} h1 h2 h3 h4 => by
  unfold cNil at h3
  split at h3
  · cases h3; cases h2; exact ⟨rfl, h4 _ h1 rfl⟩
  · cases h3⟩
theorem cgs_cons {K : PySem.W.Frag} {t : TG} {ts : TGs} {g : W → ASt → Option ASt} {gs : List W → ASt → Option ASt} {vs : List Nat} (h : CG K t g vs) (hs : CGs K ts gs vs) : CGs K (gCons t ts) (cCons g gs) vs := ⟨fun {ρ H σ τ τ' v w Q} h1 h2 h3 h4 => by
  cases h2 with
  | nil => cases h3
  | cons r1 r2 =>
    rename_i u w' us ws'
    unfold cCons at h3
    simp only at h3
    cases e : g w' τ with
    | none => rw [e] at h3; cases h3
    | some τ1 =>
      rw [e] at h3
      exact ⟨_, _, rfl, h.go h1 r1 e fun σ1 s1 w1 => hs.go s1 r2 h3 fun σ2 s2 w2 => h4 σ2 s2 (w2.trans w1)⟩⟩
theorem cg_tup {K : PySem.W.Frag} {ts : TGs} {gs : List W → ASt → Option ASt} {vs : List Nat} {n : Nat} (h : CGs K ts gs vs) : CG K (gTup K n ts) (cTup n gs) vs := ⟨fun {ρ H σ τ τ' v w Q} h1 h2 h3 h4 => by
  unfold cTup at h3
  split at h3
  · rename_i ws e
    split at h3
    · rename_i hl
      obtain ⟨ad, us, rfl, t1, l1⟩ := seqT_sq h2 e
      exact ⟨ad, us, rfl, t1, by rw [l1.length]; exact hl, h.go h1 l1 h3 h4⟩
    · cases h3
  · cases h3⟩
def Wx0 : WX := fun _ _ _ _ => False
def mYes : FT := fun _ S => .ok true S
def compGo (k : Wk) (g : W → ASt → Option ASt) (ft : FT) (fe : FE) (τ : ASt) : Nat → Nat → List W → Store → Res (List W)
  | 0, i, acc, S => if k.stop i S = true then .ok acc S else .fail
  | m + 1, i, acc, S => match k.item i S with
    | none => .fail
    | some w => match g w τ with
      | none => .fail
      | some τ1 => (noX (ft τ1 S)).bind fun b S2 => if b = true then (noX (fe τ1 S2)).bind fun y S3 => if acc.length < sizeLine then compGo k g ft fe τ m (i + 1) (acc ++ [y]) S3 else .fail
        else compGo k g ft fe τ m (i + 1) acc S2
def mComp (vs : List Nat) (fi : FI) (g : W → ASt → Option ASt) (ft : FT) (fe : FE) : FE := fun τ S => (fi τ S).bind fun k S1 => (compGo k g ft fe (wipeW τ vs) k.len 0 [] S1).bind fun ws S2 => .ok (.lst ws) S2
/-- .. that will change -/
def mCompR (vs : List Nat) (fi : FI) (g : W → ASt → Option ASt) (ft : FT) (fe : FE) : FE := fun τ S => (fi τ S).bind fun k S1 => (compGo k g ft fe (wipeW τ vs) k.len 0 [] S1).bind fun ws S2 => .ok (.ref S2.length) (S2 ++ [.lst ws])
/-- what stands in the loop of a comprehension -/
structure CompAt (K : PySem.W.Frag) (ρ : Rho) (H : Hp) (D : Addr) (acc : List W) (ρ2 : Rho) (S2 : Store) (H2 : Hp) : Prop where
  ext : Ext (ρ.hide D) (upd H D (.lst [])) ρ2 H2
  hid : ρ2.hid = D :: ρ.hid
  stay : ∀ a ∈ ρ.hid, H2 a = H a
  rel : Rel K ρ2 S2 H2
  acc : ∃ vs, H2 D = some (.lst vs) ∧ RepL K ρ2 H2 vs acc
theorem CompAt.go {K : PySem.W.Frag} {ρ ρ2 ρ3 : Rho} {H H2 H3 : Hp} {D : Addr} {acc : List W} {S2 S3 : Store} (h : CompAt K ρ H D acc ρ2 S2 H2) (e : Evo ρ2 H2 ρ3 H3) (r : Rel K ρ3 S3 H3) : CompAt K ρ H D acc ρ3 S3 H3 := by
  obtain ⟨vs, h1, h2⟩ := h.acc
  refine ⟨h.ext.trans e.toExt, e.hid.trans h.hid, fun a ha => (e.stay a (by rw [h.hid]; exact List.mem_cons_of_mem _ ha)).trans (h.stay a ha), r, vs, ?_, h2.evo e⟩
  rw [e.stay D (by rw [h.hid]; exact List.mem_cons_self)]
  exact h1
/-- the end: D is a list of its own again -/
theorem CompAt.fin {K : PySem.W.Frag} {ρ ρ2 : Rho} {S : Store} {H H2 : Hp} {D : Addr} {acc : List W} {S2 : Store} (h : CompAt K ρ H D acc ρ2 S2 H2) (r0 : Rel K ρ S H) (e0 : H D = none) :
    Evo ρ H { ρ2 with hid := ρ.hid } H2 ∧ Rel K { ρ2 with hid := ρ.hid } S2 H2 ∧ Rep K { ρ2 with hid := ρ.hid } H2 (.ref D) (.lst acc) := by
  have un : Ext ρ2 H2 { ρ2 with hid := ρ.hid } H2 := Ext.unhide (D := D) h.hid rfl
  have nd : D ∉ ρ.hid := (r0.notin e0).2
  obtain ⟨vs, h1, h2⟩ := h.acc
  refine ⟨⟨⟨h.ext.pre, fun a o q n => ?_⟩, rfl, h.stay⟩, h.rel.unhide (ρ' := { ρ2 with hid := ρ.hid }) h.hid rfl, .lst ⟨h1, h.rel.hidN D (by rw [h.hid]; exact List.mem_cons_self), nd⟩ (h2.ext un)⟩
  have z := (Ext.hide (o := .lst []) e0).trans h.ext
  obtain ⟨q1, q2⟩ := z.keep a o q n
  exact ⟨q1, (un.keep a o q1 q2).2⟩
section
variable {X : Cx} {Wx : WX} {e a b c o tg it elt : Expr} {ifs : List Expr} {st : Stmt} {sts els : List Stmt} {es : List Expr} {f fa fb fc fo fe : FE} {g : FA} {ft fu : FT} {fs fs2 : FS} {cg : W → ASt → Option ASt} {fi : FI} {pos p2 : Pos} {t : TG}
/-- the ifs of a comprehension -/
def ATs (X : Cx) (Wx : WX) (ifs : List Expr) (f : FT) : Prop := PTs X ifs (RdT X.K Wx f)
theorem ats_nil : ATs X Wx [] mYes := ⟨fun pins s σ H Q I ⟨ρ, S, τ, h1, h2, h3⟩ => pts_nil.run pins s σ H Q I (h3.ok_now h1)⟩
theorem ats_one (h : AT X Wx c ft) : ATs X Wx [c] ft := pts_one h
theorem comp_go {K : PySem.W.Frag} {k : Wk} {ρ : Rho} {S : Store} {H : Hp} {σ : L2.St} {τ : ASt} {J : It} {vs : List Nat} {Q : VK} (hg : CG K t cg vs) (r1 : Rel K ρ S H) (s1 : StRep K ρ H σ τ) (wk : WalkRep K ρ H k J)
    {Xc : XV → Rho → Store → Hp → Prop} {R : List W → Rho → Store → Hp → Prop} (q : ROk K ρ H R Xc (compGo k cg ft fe (wipeW τ vs) k.len 0 [] S))
    (fin : ∀ ws ρ' S' H' D, H D = none → Evo ρ H ρ' H' → Rel K ρ' S' H' → Rep K ρ' H' (.ref D) (.lst ws) → R ws ρ' S' H' → Q (.ref D) H') :
    ∀ D, H D = none → ∃ W : Nat → Nat → Hp → Prop, (∃ m, W 0 m (upd H D (.lst []))) ∧ ∀ i m H, W i m H →
      (J.stop i H ∧ Q (.ref D) H) ∨ (J.go i H ∧ ∃ Nx : Hp → Prop, (∀ H', Nx H' → ∃ m', m' < m ∧ W (i + 1) m' H') ∧ ∀ x H', J.yld i H x H' → t x (L2.wipe σ vs) H' fun σ2 H2 => L2.wipe σ2 vs = L2.wipe σ vs ∧ RdT K Wx0 ft σ2 H2 fun b H3 =>
        if b = true then RdE K Wx0 fe σ2 H3 fun y H4 => ∃ acc, H4 D = some (.lst acc) ∧ acc.length < sizeLine ∧ Nx (upd H4 D (.lst (acc ++ [y]))) else Nx H3) := fun D hD => by
  -- the result, seen from any state that has grown out of ρ, H
  have q0 : ∀ ρ' H', Evo ρ H ρ' H' → ROk K ρ' H' R Xc (compGo k cg ft fe (wipeW τ vs) k.len 0 [] S) := fun ρ' H' e => ROk.start e q
  let Inv2 : Nat → Nat → Hp → Prop := fun i m H2 => ∃ acc ρ2 S2, CompAt K ρ H D acc ρ2 S2 H2 ∧ ∃ r, compGo k cg ft fe (wipeW τ vs) m i acc S2 = r ∧ (match r with
    | .ok ws S' => ∀ ρ' H', Evo ρ H ρ' H' → Rel K ρ' S' H' → R ws ρ' S' H'
    | _ => False)
  have hr : ∀ r, compGo k cg ft fe (wipeW τ vs) k.len 0 [] S = r → (match r with
    | .ok ws S' => ∀ ρ' H', Evo ρ H ρ' H' → Rel K ρ' S' H' → R ws ρ' S' H'
    | _ => False) := fun r e => by
    rw [e] at q
    cases r with
    | ok ws S' => exact q
    | fail => exact q
    | exc x S' =>
      exfalso
      have noexc : ∀ (m i : Nat) (acc : List W) (S0 : Store), compGo k cg ft fe (wipeW τ vs) m i acc S0 ≠ .exc x S' := by
        intro m
        induction m with
        | zero => intro i acc S0 h; unfold compGo at h; split at h <;> cases h
        | succ m ih =>
          intro i acc S0 h
          unfold compGo at h
          split at h
          · cases h
          · split at h
            · cases h
            · cases h5 : ft _ S0 with
              | ok b S5 =>
                rw [h5] at h
                simp only [noX, Res.bind_ok] at h
                split at h
                · cases h6 : fe _ S5 with
                  | ok y S6 =>
                    rw [h6] at h
                    simp only [noX, Res.bind_ok] at h
                    split at h
                    · exact ih _ _ _ h
                    · cases h
                  | exc _ _ => rw [h6] at h; cases h
                  | fail => rw [h6] at h; cases h
                · exact ih _ _ _ h
              | exc _ _ => rw [h5] at h; cases h
              | fail => rw [h5] at h; cases h
      exact noexc _ _ _ _ e
  refine ⟨Inv2, ⟨k.len, [], ρ.hide D, S, ⟨Ext.refl, rfl, fun a ha => ?_, r1.hide hD, [], upd_same, .nil⟩, _, rfl, hr _ rfl⟩, ?_⟩
  · obtain ⟨u, qu⟩ := r1.hidT a ha
    rw [upd_ne (ne_of_none qu hD)]
  rintro i m H2 ⟨acc, ρ2, S2, ca, r, er, hrr⟩
  have extk : Ext ρ H ρ2 H2 := (Ext.hide hD).trans ca.ext
  obtain ⟨wi, ws⟩ := wk ρ2 S2 H2 extk ca.rel
  cases m with
  | zero =>
    unfold compGo at er
    split at er
    · rename_i hst
      subst er
      obtain ⟨f1, f2, f3⟩ := ca.fin r1 hD
      exact .inl ⟨ws i hst, fin acc _ S2 H2 D hD f1 f2 f3 (hrr _ _ f1 f2)⟩
    · subst er; exact hrr.elim
  | succ m =>
    unfold compGo at er
    split at er
    · subst er; exact hrr.elim
    · rename_i w ew
      split at er
      · subst er; exact hrr.elim
      · rename_i τ1 eg
        obtain ⟨go, yl⟩ := wi i w ew
        refine .inr ⟨go, Inv2 (i + 1) m, fun H' h => ⟨m, Nat.lt_succ_self _, h⟩, fun x H3 hy => ?_⟩
        obtain ⟨ev3, r3, rx⟩ := yl x H3 hy
        have s0 : StRep K ρ2 H3 (L2.wipe σ vs) (wipeW τ vs) := ((s1.ext extk).evo ev3).wipe vs
        have ca3 := ca.go ev3 r3
        refine hg.go s0 rx eg fun σ2 s2 w2 => ⟨?_, ?_⟩
        · rw [w2, wipe_wipe fun _ h => h]
        refine ⟨ρ2, S2, τ1, r3, s2, ?_⟩
        cases h5 : ft τ1 S2 with
        | fail => rw [h5] at er; simp only [noX, Res.bind_fail] at er; subst er; exact hrr.elim
        | exc _ _ => rw [h5] at er; simp only [noX, Res.bind_fail] at er; subst er; exact hrr.elim
        | ok b S5 =>
          rw [h5] at er
          simp only [noX, Res.bind_ok] at er
          intro ρ5 H5 e5 r5
          have ca5 := ca3.go e5 r5
          cases b with
          | false => exact ⟨acc, ρ5, S5, ca5, r, er, hrr⟩
          | true =>
            rw [if_pos rfl] at er
            refine ⟨ρ5, S5, τ1, r5, s2.evo e5, ?_⟩
            cases h6 : fe τ1 S5 with
            | fail => rw [h6] at er; simp only [noX, Res.bind_fail] at er; subst er; exact hrr.elim
            | exc _ _ => rw [h6] at er; simp only [noX, Res.bind_fail] at er; subst er; exact hrr.elim
            | ok y S6 =>
              rw [h6] at er
              simp only [noX, Res.bind_ok] at er
              intro ρ6 H6 e6 r6 v rv
              have ca6 := ca5.go e6 r6
              split at er
              · rename_i hl
                obtain ⟨us, h7, h8⟩ := ca6.acc
                have hm : D ∈ ρ6.hid := by rw [ca6.hid]; exact List.mem_cons_self
                refine ⟨us, h7, by rw [h8.length]; exact hl, acc ++ [y], ρ6, S6, ⟨ca6.ext.trans (Ext.hset hm), ca6.hid, fun a ha => ?_, ca6.rel.hset hm, _, upd_same, (h8.append (.cons rv .nil)).ext (Ext.hset hm)⟩, r, er, hrr⟩
                rw [upd_ne fun z => (r1.notin hD).2 (by rw [← z]; exact ha)]
                exact ca6.stay a ha
              · subst er; exact hrr.elim
theorem a_comp {scope : Scope} {own : List (Str × Nat)} (hc : X.calm = true) (hN : X.N.Nodup) (hi : AI X Wx tg it fi) (ok : BlkOk X.N X.env.scope scope own) (hcg : CG X.K t cg (own.map (·.2)))
    (hg : ∀ (s : Shared) (H : Hp) (C : Addr) (cl : List (Str × Addr)) (fp : List Addr), PG (X.blk s H scope (compEnvC scope cl C X.env) fp) tg t) (ht : ∀ (s : Shared) (H : Hp) (C : Addr) (cl : List (Str × Addr)) (fp : List Addr), ATs (X.blk s H scope (compEnvC scope cl C X.env) fp) Wx0 ifs ft)
    (he : ∀ (s : Shared) (H : Hp) (C : Addr) (cl : List (Str × Addr)) (fp : List Addr), AE (X.blk s H scope (compEnvC scope cl C X.env) fp) Wx0 elt fe) (hs : ∀ x, foldedSetIterable it X.env x = pure x := by intro _; rfl) :
    AE X Wx (.ListComp elt [⟨tg, it, ifs, 0⟩] scope pos) (mComp (own.map (·.2)) fi cg ft fe) :=
  peM (pe_lc (tt := RdT X.K Wx0 ft) (te := RdE X.K Wx0 fe) hc hN hi ok hg ht he hs) fun σ H Q ⟨ρ, S, τ, h1, h2, h3⟩ => by
    refine ⟨ρ, S, τ, h1, h2, h3.split.imp (fun k ρ1 S1 H1 e1 r1 q1 J wk => ?_) fun _ _ _ _ _ _ z => z⟩
    exact comp_go hcg r1 (h2.evo e1) wk q1.split fun ws ρ' S' H' D hD e r rd q => q.ok_now r _ rd
theorem s_setComp {i : Nat} {y : Str} {py spos : Pos} {scope : Scope} {own : List (Str × Nat)} (hc : X.calm = true) (hN : X.N.Nodup) (hy : X.N[i]? = some y) (hyl : X.env.scope.names.lookup y = some .local)
    (hsw : swapsWith (.ListComp elt [⟨tg, it, ifs, 0⟩] scope pos) (some (.Name y py)) spos.line X.env = pure true) (hi : AI X Wx tg it fi) (ok : BlkOk X.N X.env.scope scope own) (hcg : CG X.K t cg (own.map (·.2)))
    (hg : ∀ (s : Shared) (H : Hp) (C : Addr) (cl : List (Str × Addr)) (fp : List Addr), PG (X.blk s H scope (compEnvC scope cl C X.env) fp) tg t) (ht : ∀ (s : Shared) (H : Hp) (C : Addr) (cl : List (Str × Addr)) (fp : List Addr), ATs (X.blk s H scope (compEnvC scope cl C X.env) fp) Wx0 ifs ft)
    (he : ∀ (s : Shared) (H : Hp) (C : Addr) (cl : List (Str × Addr)) (fp : List Addr), AE (X.blk s H scope (compEnvC scope cl C X.env) fp) Wx0 elt fe) (hs : ∀ x, foldedSetIterable it X.env x = pure x := by intro _; rfl) :
    AS X Wx (.Assign [.Name y py] (.ListComp elt [⟨tg, it, ifs, 0⟩] scope pos) spos) (mAsg (mComp (own.map (·.2)) fi cg ft fe) (gSet i)) :=
  psM (ps_setLc (tt := RdT X.K Wx0 ft) (te := RdE X.K Wx0 fe) hc hN hy hyl hsw hi ok hg ht he hs) fun D σ H ⟨ρ, S, τ, h1, h2, h3⟩ => by
    have h3' : ROk X.K ρ H (fun w ρ1 S1 H1 => SOk X.K Wx ρ1 H1 D (.next (τ.set i (some w)) S1)) (RX X.K Wx σ) (mComp (own.map (·.2)) fi cg ft fe τ S) := h3.toE h2
    refine ⟨ρ, S, τ, h1, h2, h3'.split.imp (fun k ρ1 S1 H1 e1 r1 q1 J wk => ?_) fun _ _ _ _ _ _ z => z⟩
    refine comp_go (Q := fun x H1 => gName i x σ H1 D.nx) hcg r1 (h2.evo e1) wk q1.split fun ws ρ' S' H' L hD e r rd q => ?_
    have q' : SOk X.K Wx ρ' H' D (.next (τ.set i (some (.lst ws))) S') := q.ok_now r
    exact q' ρ' H' _ Evo.refl r (((h2.evo e1).evo e).set rd i)
end
end Eng
namespace Eng
open PySem PySem.Spec PyProof.Rows L2

/-! ### leaving a def: what it has made for itself is forgotten -/
def XV.isData (x : XV) : Bool := allData (x.fs.map (·.2))
def CutOk (S S' : Store) : Prop := ∀ n, n < S.length → S'[n]? = S[n]? ∨ ∃ o, S'[n]? = some o ∧ o.isData = true
open Classical in
noncomputable def leave (S : Store) : SRes → Res W
  | .ret w S' => if w.isData = true ∧ CutOk S S' then .ok w (S'.take S.length) else .fail
  | .next _ S' => if CutOk S S' then .ok .non (S'.take S.length) else .fail
  | .exc x _ S' => if x.isData = true ∧ CutOk S S' then .exc x (S'.take S.length) else .fail
  | _ => .fail
def startW (n : Nat) (ws : List W) : ASt := ws.map some ++ List.replicate (n - ws.length) none
noncomputable def fnRes (n : Nat) (body : FS) : List W → Store → Res W := fun ws S => leave S (body (startW n ws) S)
/-- a def that hands on objects of the store -/
def keepS : SRes → Res W
  | .ret w S' => .ok w S'
  | .next _ S' => .ok .non S'
  | .exc x _ S' => .exc x S'
  | _ => .fail
def fnKeep (n : Nat) (body : FS) : List W → Store → Res W := fun ws S => keepS (body (startW n ws) S)
theorem CutOk.refl {S : Store} : CutOk S S := fun _ _ => .inl rfl
theorem CutOk.append {S G : Store} : CutOk S (S ++ G) := fun n hn => .inl (List.getElem?_append_left hn)
theorem CutOk.set {S S' : Store} {n : Nat} {o : Ob} (h : CutOk S S') (ho : o.isData = true) : CutOk S (S'.set n o) := fun m hm => by
  by_cases e : m = n
  · subst e
    by_cases hl : m < S'.length
    · exact .inr ⟨o, by rw [List.getElem?_set_self hl], ho⟩
    · rw [List.set_eq_of_length_le (by omega)]
      exact h m hm
  · rw [List.getElem?_set_ne (Ne.symm e)]
    exact h m hm
section
variable {K : PySem.W.Frag} {ρ ρ' ρ2 : Rho} {H H' : Hp} {S S' : Store}
mutual
theorem Rep.data (ho : ∀ a, ρ.out a → ρ2.out a) : ∀ {v : V} {w : W}, w.isData = true → Rep K ρ H v w → Rep K ρ2 H v w
  | _, _, _, .non => .non
  | _, _, _, .bl => .bl
  | _, _, _, .int => .int
  | _, _, _, .str h => .str h
  | _, _, hd, .ktup h r => .ktup h (RepL.data ho (by simpa [W.isData] using hd) r)
  | _, _, _, .scr h => .scr (h.elim (fun h => .inl ⟨h.1, ho _ h.2⟩) .inr)
  | _, _, hd, .tup h r => .tup ⟨h.1, ho _ h.2⟩ (RepL.data ho (by simpa [W.isData] using hd) r)
  | _, _, hd, .lst h r => .lst ⟨h.1, ho _ h.2⟩ (RepL.data ho (by simpa [W.isData] using hd) r)
  | _, .ref n, hd, .ref h => by simp [W.isData] at hd
theorem RepL.data (ho : ∀ a, ρ.out a → ρ2.out a) : ∀ {vs : List V} {ws : List W}, allData ws = true → RepL K ρ H vs ws → RepL K ρ2 H vs ws
  | _, _, _, .nil => .nil
  | _, w :: ws, hd, .cons h r => by
    simp only [allData, Bool.and_eq_true] at hd
    exact .cons (Rep.data ho hd.1 h) (RepL.data ho hd.2 r)
end
mutual
/-- what was there ahead has no newer objects of the store -/
theorem Rep.cut (ho : ∀ a, ρ'.out a → ρ2.out a) (h0 : ∀ (n : Nat) (a : Addr), ρ.refs[n]? = some a → ρ'.refs[n]? = some a) (h2 : ∀ (n : Nat) (a : Addr), ρ.refs[n]? = some a → ρ2.refs[n]? = some a) : ∀ {v v' : V} {w : W}, Rep K ρ H v w → Rep K ρ' H' v' w → Rep K ρ2 H' v' w
  | _, _, _, .non, .non => .non
  | _, _, _, .bl, .bl => .bl
  | _, _, _, .int, .int => .int
  | _, _, _, .str _, .str h => .str h
  | _, _, _, .ktup _ r, .ktup h r' => .ktup h (RepL.cut ho h0 h2 r r')
  | _, _, _, .scr _, .scr h => .scr (h.elim (fun h => .inl ⟨h.1, ho _ h.2⟩) .inr)
  | _, _, _, .tup _ r, .tup h r' => .tup ⟨h.1, ho _ h.2⟩ (RepL.cut ho h0 h2 r r')
  | _, _, _, .lst _ r, .lst h r' => .lst ⟨h.1, ho _ h.2⟩ (RepL.cut ho h0 h2 r r')
  | _, _, _, .ref h, .ref h' => by
    have e := (h0 _ _ h).symm.trans h'
    cases e
    exact .ref (h2 _ _ h)
theorem RepL.cut (ho : ∀ a, ρ'.out a → ρ2.out a) (h0 : ∀ (n : Nat) (a : Addr), ρ.refs[n]? = some a → ρ'.refs[n]? = some a) (h2 : ∀ (n : Nat) (a : Addr), ρ.refs[n]? = some a → ρ2.refs[n]? = some a) : ∀ {vs vs' : List V} {ws : List W}, RepL K ρ H vs ws → RepL K ρ' H' vs' ws → RepL K ρ2 H' vs' ws
  | _, _, _, .nil, .nil => .nil
  | _, _, _, .cons h r, .cons h' r' => .cons (Rep.cut ho h0 h2 h h') (RepL.cut ho h0 h2 r r')
end
/-- the store cut back to what stood at the entry -/
def Rho.cutTo (ρ' ρ : Rho) : Rho := { ρ' with refs := ρ.refs }
theorem cut_out (e : Evo ρ H ρ' H') : ∀ a, ρ'.out a → (ρ'.cutTo ρ).out a := fun a h => ⟨fun z => by
  obtain ⟨m, em⟩ := e.pre
  exact h.1 (by rw [em]; exact List.mem_append_left _ z), h.2⟩
theorem cut_evo (e : Evo ρ H ρ' H') : Evo ρ H (ρ'.cutTo ρ) H' := ⟨⟨⟨[], by simp [Rho.cutTo]⟩, fun a o q n => ⟨(e.keep a o q n).1, cut_out e a (e.keep a o q n).2⟩⟩, e.hid, e.stay⟩
theorem cut_rel (e : Evo ρ H ρ' H') (r : Rel K ρ S H) (r' : Rel K ρ' S' H') (hc : CutOk S S') : Rel K (ρ'.cutTo ρ) (S'.take S.length) H' := by
  have hlen : S.length ≤ S'.length := by
    obtain ⟨m, em⟩ := e.pre
    have := r'.len
    rw [em, List.length_append] at this
    rw [← r.len]
    omega
  refine ⟨?_, r.nd, fun n ob a q1 q2 => ?_, r'.hidT, fun a ha => ?_⟩
  · show ρ.refs.length = _
    rw [r.len, List.length_take]
    omega
  · have q2 : ρ.refs[n]? = some a := q2
    have hn : n < S.length := by rw [← r.len]; exact (List.getElem?_eq_some_iff.mp q2).1
    rw [List.getElem?_take_of_lt hn] at q1
    have a1 := r'.obs n ob a q1 (e.ix q2)
    have h0 : ∀ (n : Nat) (a : Addr), ρ.refs[n]? = some a → ρ'.refs[n]? = some a := fun n a q => e.ix q
    have h2 : ∀ (n : Nat) (a : Addr), ρ.refs[n]? = some a → (ρ'.cutTo ρ).refs[n]? = some a := fun n a q => q
    rcases hc n hn with z | ⟨o, z, zd⟩
    · rw [q1] at z
      have a0 := r.obs n ob a z.symm q2
      cases ob with
      | lst ws =>
        obtain ⟨vs, _, l0⟩ := a0
        obtain ⟨us, g1, l1⟩ := a1
        exact ⟨us, g1, l0.cut (cut_out e) h0 h2 l1⟩
      | dK kvs =>
        obtain ⟨vs, _, _, l0⟩ := a0
        obtain ⟨us, g1, gk, l1⟩ := a1
        exact ⟨us, g1, gk, l0.cut (cut_out e) h0 h2 l1⟩
      | dT kvs =>
        obtain ⟨vs, _, _, l0⟩ := a0
        obtain ⟨us, g1, gk, l1⟩ := a1
        exact ⟨us, g1, gk, l0.cut (cut_out e) h0 h2 l1⟩
    · rw [q1] at z
      cases z
      cases ob with
      | lst ws =>
        obtain ⟨us, g1, l1⟩ := a1
        exact ⟨us, g1, l1.data (cut_out e) zd⟩
      | dK kvs =>
        obtain ⟨us, g1, gk, l1⟩ := a1
        exact ⟨us, g1, gk, l1.data (cut_out e) zd⟩
      | dT kvs =>
        obtain ⟨us, g1, gk, l1⟩ := a1
        exact ⟨us, g1, gk, l1.data (cut_out e) zd⟩
  · intro z
    obtain ⟨m, em⟩ := e.pre
    exact r'.hidN a ha (by rw [em]; exact List.mem_append_left _ z)
theorem XRep.data {x : XV} {cls : Value} {d : Option Addr} (ho : ∀ a, ρ.out a → ρ2.out a) (hd : x.isData = true) (h : XRep K ρ H x cls d) : XRep K ρ2 H x cls d := by
  obtain ⟨h1, dd, fs, h2, h3, h4, h5, h6⟩ := h
  exact ⟨h1, dd, fs, h2, h3, ho _ h4, h5, h6.data ho hd⟩
/-- what a body's end says, from what is wanted of the def -/
theorem leave_ok {Wx : WX} {Q : VK} {E : XK} {r : SRes} (hr : Rel K ρ S H) (h : ROk K ρ H (RQ K Q) (fun x ρ' _ H' => ∀ cls d, XRep K ρ' H' x cls d → E cls d H') (leave S r)) :
    SOk K (fun cls d _ H => E cls d H) ρ H { nx := fun _ H' => Q .non H', rt := Q } r := by
  cases r with
  | ret w S' =>
    unfold leave at h
    simp only at h
    split at h
    · rename_i hc
      exact fun ρ' H' v e q rv => h _ H' (cut_evo e) (cut_rel e hr q hc.2) v (rv.data (cut_out e) hc.1)
    · exact h.elim
  | next τ S' =>
    unfold leave at h
    simp only at h
    split at h
    · rename_i hc
      exact fun ρ' H' σ' e q _ => h _ H' (cut_evo e) (cut_rel e hr q hc) .non .non
    · exact h.elim
  | exc x τ S' =>
    unfold leave at h
    simp only at h
    split at h
    · rename_i hc
      exact fun ρ' H' σ' cls d e q _ xr => h _ H' (cut_evo e) (cut_rel e hr q hc.2) cls d (xr.data (cut_out e) hc.1)
    · exact h.elim
  | brk _ _ => exact h.elim
  | cnt _ _ => exact h.elim
  | fail => exact h.elim
theorem keep_ok {Q : VK} {E : XK} {r : SRes} (h : ROk K ρ H (RQ K Q) (fun x ρ' _ H' => ∀ cls d, XRep K ρ' H' x cls d → E cls d H') (keepS r)) :
    SOk K (fun cls d _ H => E cls d H) ρ H { nx := fun _ H' => Q .non H', rt := Q } r := by
  cases r with
  | ret w S' => exact fun ρ' H' v e q rv => h ρ' H' e q v rv
  | next τ S' => exact fun ρ' H' σ' e q _ => h ρ' H' e q .non .non
  | exc x τ S' => exact fun ρ' H' σ' cls d e q _ xr => h ρ' H' e q cls d xr
  | brk _ _ => exact h.elim
  | cnt _ _ => exact h.elim
  | fail => exact h.elim
end
/-- a def's promise by its plain function -/
def spA (K : PySem.W.Frag) (n : Nat) (f : List W → Store → Res W) : Sp := fun vs H Q E => vs.length = n ∧ ∃ ρ S ws, Rel K ρ S H ∧ RepL K ρ H vs ws ∧ ROk K ρ H (RQ K Q) (fun x ρ' _ H' => ∀ cls d, XRep K ρ' H' x cls d → E cls d H') (f ws S)
theorem start_rep {K : PySem.W.Frag} {ρ : Rho} {H : Hp} {N : List Str} {vs : List V} {ws : List W} (r : RepL K ρ H vs ws) : StRep K ρ H (L2.start N vs) (startW N.length ws) := by
  have hl := r.length
  refine ⟨?_, fun i w q => ?_⟩
  · unfold L2.start startW
    rw [List.length_append, List.length_append, List.length_map, List.length_map, List.length_replicate, List.length_replicate, hl]
  · unfold startW at q
    by_cases hi : i < ws.length
    · rw [List.getElem?_append_left (by simpa using hi), List.getElem?_map] at q
      cases e : ws[i]? with
      | none => rw [e] at q; cases q
      | some w' =>
        rw [e] at q
        cases q
        obtain ⟨v, h1, h2⟩ := r.get e
        refine ⟨v, ?_, h2⟩
        unfold L2.start
        rw [List.getElem?_append_left (by simpa [hl] using hi), List.getElem?_map, h1]
        rfl
    · rw [List.getElem?_append_right (by simpa using hi), List.getElem?_replicate] at q
      split at q <;> cases q
section
variable {P : Program} {w : World} {K : PySem.W.Frag} {mg : Str → Option Value} {base : Heap}
/-- the wish in a def's body -/
abbrev wxOf (E : XK) : WX := fun cls d _ H => E cls d H
theorem fn_ok {x qual : Str} {params : Arguments} {body : List Stmt} {scope : Scope} {dvs : List V} {kws : List (Str × V)} {f : Addr} {fd : FuncData} {N ps : List Str} {k : Nat} {fb : FS} (F : FunD K x qual params body scope dvs kws f fd) (Sc : FnScope N ps scope)
    (hbody : ∀ (cdv : Value) (A : Around) (outer : List Env) (s : Shared) (H : Hp) (E : XK), Room k (A.deeper (envOfC qual scope s.heap.objs.size f cdv)) → ASs (cxOf (L2.CX P w) P w K mg base N qual scope f cdv A outer s H E) (wxOf E) body fb) :
    FnOk P w K mg base (L2.CX P w) (k + 1) f fd ps (spA K ps.length (fnRes N.length fb)) := by
  refine F.ok Sc (fun vs H Q E h => h.1) (fun cdv A outer s H vs Q E hr h => ⟨_, hbody cdv A outer s H E hr, ?_⟩)
  obtain ⟨_, ρ, S, ws, h1, h2, h3⟩ := h
  exact ⟨ρ, S, startW N.length ws, h1, start_rep h2, leave_ok (Wx := wxOf E) h1 h3⟩
theorem fn_okK {x qual : Str} {params : Arguments} {body : List Stmt} {scope : Scope} {dvs : List V} {kws : List (Str × V)} {f : Addr} {fd : FuncData} {N ps : List Str} {k : Nat} {fb : FS} (F : FunD K x qual params body scope dvs kws f fd) (Sc : FnScope N ps scope)
    (hbody : ∀ (cdv : Value) (A : Around) (outer : List Env) (s : Shared) (H : Hp) (E : XK), Room k (A.deeper (envOfC qual scope s.heap.objs.size f cdv)) → ASs (cxOf (L2.CX P w) P w K mg base N qual scope f cdv A outer s H E) (wxOf E) body fb) :
    FnOk P w K mg base (L2.CX P w) (k + 1) f fd ps (spA K ps.length (fnKeep N.length fb)) := by
  refine F.ok Sc (fun vs H Q E h => h.1) (fun cdv A outer s H vs Q E hr h => ⟨_, hbody cdv A outer s H E hr, ?_⟩)
  obtain ⟨_, ρ, S, ws, h1, h2, h3⟩ := h
  exact ⟨ρ, S, startW N.length ws, h1, start_rep h2, keep_ok h3⟩
end
/-! ### calling a def -/
section
variable {X : Cx} {Wx : WX} {e : Expr} {es : List Expr} {g : FA} {pos p : Pos}
def mFn (n : Nat) (f : List W → Store → Res W) (dws : List W) (g : FA) : FE := fun τ S => (g τ S).bind fun ws S1 => if ws.length + dws.length = n then f (ws ++ dws) S1 else .fail
theorem a_call {k n : Nat} {f : Addr} {fd : FuncData} {ps : List Str} {x : Str} {fw : List W → Store → Res W} {dvs : List V} {ds : List Value} {dws : List W} (F : FnOk X.prog X.w X.K X.mg X.base (L2.CX X.prog X.w) k f fd ps (spA X.K n fw)) (hr : Room k X.A) (hg : Gl X x) (hm : X.mg x = some (.ref f)) (hk : PySem.W.keepIn X.K (.ref f) = true)
    (hb : Binds X.K fd ps ds) (hd : Vals dvs ds) (hdw : ∀ ρ H, RepL X.K ρ H dvs dws) (tk : Takes X Wx) (ha : AA X Wx (e :: es) g) (hdb : (x == ("__debug__" : Str)) = false := by decide) (he : starEach (e :: es) X.env = (false, eval e X.env) :: starEach es X.env := by rfl) (hpl : (backTo pos (starEach es X.env)).any (·.1) = false := by rfl) :
    AE X Wx (.Call (.Name x p) (e :: es) [] pos) (mFn n fw dws g) :=
  peM (pe_callSD (E := WE Wx) F hr hg hm hk hb hd (fun σ => passAt tk σ) ha hdb he hpl) fun σ H Q ⟨ρ, S, τ, h1, h2, h3⟩ => by
    refine RdA.mk h1 h2 h3.split fun ws ρ1 S1 H1 vs e1 r1 s1 rvs q1 => ?_
    split at q1
    · rename_i hl
      refine ⟨?_, ρ1, S1, ws ++ dws, r1, rvs.append (hdw ρ1 H1), q1⟩
      rw [List.length_append, rvs.length, (hdw ρ1 H1).length]
      exact hl
    · exact q1.elim
end
end Eng
namespace Eng
open PySem PySem.Spec PyProof.Rows L2
theorem hr1 {k : Nat} {A : Around} (r : Room k A) : A.units + 1 < cLine := by have := r.un; omega
theorem hr64 {k : Nat} {A : Around} (r : Room k A) : A.units + 64 < cLine := by have := r.un; omega
theorem hr66 {k : Nat} {A : Around} (r : Room k A) : A.units + 66 < cLine := by have := r.un; omega

/-! ### isinstance(x, T), T a built-in class -/
def tyName (S : Store) : W → Option String
  | .non => some "NoneType"
  | .bl _ => some "bool"
  | .int _ => some "int"
  | .str _ => some "str"
  | .tup _ => some "tuple"
  | .ktup _ => some "tuple"
  | .lst _ => some "list"
  | .scr _ => none
  | .ref n => match S[n]? with
    | some (.lst _) => some "list"
    | some (.dK _) => some "dict"
    | some (.dT _) => some "dict"
    | none => none
theorem tyName_ok {K : PySem.W.Frag} {ρ : Rho} {S : Store} {H : Hp} {v : V} {w : W} {t : String} (rl : Rel K ρ S H) (r : Rep K ρ H v w) (e : tyName S w = some t) : TyX K H v (.type t) := by
  cases r with
  | non => cases e; exact .base .non
  | bl => cases e; exact .base (.bl _)
  | int => cases e; exact .base (.int _)
  | str _ => cases e; exact .base (.str _)
  | tup h _ => cases e; exact .base (.tup h.1)
  | lst h _ => cases e; exact .base (.lst h.1)
  | ktup h _ =>
    cases e
    obtain ⟨o, its, n, h1, h2, _⟩ := h
    exact .kTuple h1 h2
  | scr h => cases e
  | ref hn =>
    rename_i a n
    unfold tyName at e
    cases q : S[n]? with
    | none => simp only [q] at e; cases e
    | some o =>
      cases o with
      | lst xs =>
        simp only [q] at e
        cases e
        obtain ⟨vs, h1, _⟩ := ref_lst rl hn q
        exact .base (.lst h1)
      | dK kvs =>
        simp only [q] at e
        cases e
        obtain ⟨kws, h1, _⟩ : ObRep K ρ H (.dK kvs) a := rl.obs n _ a q hn
        exact .base (.dK h1)
      | dT kvs =>
        simp only [q] at e
        cases e
        obtain ⟨kws, h1, _⟩ : ObRep K ρ H (.dT kvs) a := rl.obs n _ a q hn
        exact .base (.dT h1)
def mIsi (T : String) (f : FE) : FE := fun τ S => (f τ S).bind fun w S1 => match tyName S1 w with
  | some t => match kitB t T with
    | some b => .ok (.bl b) S1
    | none => .fail
  | none => .fail
section
variable {X : Cx} {Wx : WX} {e a b c o tg it : Expr} {st : Stmt} {sts els : List Stmt} {es : List Expr} {f fa fb fc fo fi' : FE} {g : FA} {ft fu : FT} {fs fs2 : FS} {gg : FG} {pos p2 p3 : Pos}
theorem a_isi {x : Str} {T : String} (hg : Gl X "isinstance") (hm : X.mg "isinstance" = none) (hgx : Gl X x) (hmx : X.mg x = none) (hv : bootBuiltins x = some (.type T)) (ha : AE X Wx a fa) (hn : x ≠ "__name__" := by decide) (hdb : (x == ("__debug__" : Str)) = false := by decide)
    (he : starEach [a, .Name x p3] X.env = (false, eval a X.env) :: starEach [.Name x p3] X.env := by rfl) (hpl : (backTo pos (starEach [.Name x p3] X.env)).any (·.1) = false := by rfl) :
    AE X Wx (.Call (.Name "isinstance" p2) [a, .Name x p3] [] pos) (mIsi T fa) :=
  peM (pe_callB (t := tCons (RdE X.K Wx fa) (tCons (tC (.ty T)) tNil)) call_isi hg hm (by decide +kernel) (pa_cons ha (pa_cons (pe_bltn hgx hmx hv rfl hn hdb) pa_nil rfl) he) (by decide) (by decide) he hpl) fun σ H Q ⟨ρ, S, τ, h1, h2, h3⟩ => by
    refine RdE.mk h1 h2 h3.split fun w ρ1 S1 H1 v e1 r1 s1 rv q1 => ?_
    split at q1
    · rename_i t et
      split at q1
      · rename_i k ek
        exact ⟨v, .ty T, .type t, .type T, k, rfl, .ty T, tyName_ok r1 rv et, kit_ty ek, q1.ok_now r1 _ .bl⟩
      · exact q1.elim
    · exact q1.elim

/-! ### o[i] = v -/
def putS (o i v : W) (S : Store) : Option Store := match o with
  | .ref n => match S[n]? with
    | some (.lst xs) => match i with
      | .int k => match ixN xs.length k with
        | some j => some (S.set n (.lst (xs.set j v)))
        | none => none
      | _ => none
    | some (.dK kvs) => match keyW i with
      | some k => if kvs.length < sizeLine then some (S.set n (.dK (putW kvs k v))) else none
      | none => none
    | some (.dT kvs) => match i with
      | .tup xs => match keysW xs with
        | some k => if kvs.length < sizeLine then some (S.set n (.dT (putW kvs k v))) else none
        | none => none
      | _ => none
    | none => none
  | _ => none
theorem putW_rep {K : PySem.W.Frag} {ρ : Rho} {H : Hp} {κ : Type} [DecidableEq κ] {k : κ} {kws : List (κ × V)} {kvs : List (κ × W)} {v : V} {w : W} (he : kws.map (·.1) = kvs.map (·.1)) (hr : RepL K ρ H (kws.map (·.2)) (kvs.map (·.2))) (rv : Rep K ρ H v w) :
    (putK kws k v).map (·.1) = (putW kvs k w).map (·.1) ∧ RepL K ρ H ((putK kws k v).map (·.2)) ((putW kvs k w).map (·.2)) := by
  have hany : ∀ (p : List (κ × V)) (q : List (κ × W)), p.map (·.1) = q.map (·.1) → (p.any fun kv => decide (kv.1 = k)) = q.any fun kv => decide (kv.1 = k) := by
    intro p
    induction p with
    | nil => intro q h; cases q with
      | nil => rfl
      | cons _ _ => simp at h
    | cons x p ih => intro q h; cases q with
      | nil => simp at h
      | cons y q =>
        simp only [List.map_cons, List.cons.injEq] at h
        rw [List.any_cons, List.any_cons, h.1, ih q h.2]
  have hmap : ∀ (p : List (κ × V)) (q : List (κ × W)), p.map (·.1) = q.map (·.1) → RepL K ρ H (p.map (·.2)) (q.map (·.2)) →
      (p.map fun kv => if kv.1 = k then (kv.1, v) else kv).map (·.1) = (q.map fun kv => if kv.1 = k then (kv.1, w) else kv).map (·.1) ∧
      RepL K ρ H ((p.map fun kv => if kv.1 = k then (kv.1, v) else kv).map (·.2)) ((q.map fun kv => if kv.1 = k then (kv.1, w) else kv).map (·.2)) := by
    intro p
    induction p with
    | nil => intro q h _; cases q with
      | nil => exact ⟨rfl, .nil⟩
      | cons _ _ => simp at h
    | cons x p ih => intro q h r; cases q with
      | nil => simp at h
      | cons y q =>
        simp only [List.map_cons, List.cons.injEq] at h
        cases r with
        | cons r1 r2 =>
          obtain ⟨i1, i2⟩ := ih q h.2 r2
          by_cases hk : y.1 = k
          · have hx : x.1 = k := h.1.trans hk
            simp only [List.map_cons, hx, hk, if_true]
            exact ⟨by rw [i1], .cons rv i2⟩
          · have hx : ¬ x.1 = k := fun z => hk (h.1.symm.trans z)
            simp only [List.map_cons, hx, hk, if_false]
            exact ⟨by rw [i1, h.1], .cons r1 i2⟩
  unfold putK putW
  rw [hany kws kvs he]
  split
  · exact hmap kws kvs he hr
  · simp only [List.map_append, List.map_cons, List.map_nil]
    exact ⟨by rw [he], hr.append (.cons rv .nil)⟩
def rdSet (K : PySem.W.Frag) : TSet := fun o i v H Q => ∃ ρ S x y w S', Rel K ρ S H ∧ Rep K ρ H o x ∧ Rep K ρ H i y ∧ Rep K ρ H v w ∧ putS x y w S = some S' ∧ ∀ ρ' H', Evo ρ H ρ' H' → Rel K ρ' S' H' → Q H'
theorem set_any (hu : X.A.units + 1 < cLine) : PSet X (rdSet X.K) := by
  intro pins s σ H o i v ov iv u Q I ro ri rv h
  obtain ⟨ρ, S, x, y, w, S', hr, rx, ry, rw_, e, q⟩ := h
  unfold putS at e
  split at e
  · rename_i n
    cases rx with
    | ref hn =>
      have hm := List.mem_of_getElem? hn
      split at e
      · rename_i xs es
        split at e
        · rename_i k
          cases ry
          split at e
          · rename_i j ej
            cases e
            obtain ⟨vs, h1, h2⟩ := ref_lst hr hn es
            refine set_list pins s σ H _ _ v ov iv u Q I ro ri rv ⟨_, vs, k, j, rfl, rfl, h1, by rw [h2.length]; exact ej, q ρ _ (Evo.write hr hm) (hr.write hn ⟨_, upd_same, (h2.set rw_ j).evo (Evo.write hr hm)⟩)⟩
          · cases e
        · cases e
      · rename_i kvs es
        split at e
        · rename_i k ek
          split at e
          · rename_i hl
            cases e
            obtain ⟨kws, h1, h2, h3⟩ : ObRep X.K ρ H (.dK kvs) _ := hr.obs _ _ _ es hn
            have hlen : kws.length = kvs.length := by simpa using congrArg List.length h2
            obtain ⟨p1, p2⟩ := putW_rep (k := k) h2 h3 rw_
            obtain rfl : ov = Value.ref _ := ro
            have ey := keyW_rep ry ek
            subst ey
            exact d_setItem hu I (DPut.k (k := k) h1 (by rw [hlen]; exact hl)) ri rv fun s4 I4 => ⟨_, I4, q ρ _ (Evo.write hr hm) (hr.write hn ⟨_, upd_same, p1, p2.evo (Evo.write hr hm)⟩)⟩
          · cases e
        · cases e
      · rename_i kvs es
        split at e
        · rename_i xs
          split at e
          · rename_i k ek
            split at e
            · rename_i hl
              cases e
              obtain ⟨kws, h1, h2, h3⟩ : ObRep X.K ρ H (.dT kvs) _ := hr.obs _ _ _ es hn
              have hlen : kws.length = kvs.length := by simpa using congrArg List.length h2
              obtain ⟨p1, p2⟩ := putW_rep (k := k) h2 h3 rw_
              obtain rfl : ov = Value.ref _ := ro
              cases ry with
              | tup ht hl2 =>
                have ey := keysW_rep hl2 ek
                subst ey
                exact d_setItem hu I (DPut.t h1 ht.1 (by rw [hlen]; exact hl)) ri rv fun s4 I4 => ⟨_, I4, q ρ _ (Evo.write hr hm) (hr.write hn ⟨_, upd_same, p1, p2.evo (Evo.write hr hm)⟩)⟩
            · cases e
          · cases e
        · cases e
      · cases e
  · cases e
/-- o[i] = .. as a target -/
def gPut (fo fi : FE) : FG := fun w τ S => (fo τ S).bind fun x S1 => (fi τ S1).bind fun y S2 => match putS x y w S2 with
  | some S3 => .ok τ S3
  | none => .fail
theorem g_put (hu : X.A.units + 1 < cLine) (ho : AE X Wx o fo) (hi : AE X Wx c fi')
    (ha : ∀ v, assign (.Subscript o c pos) X.env v = (do
      let ov ← holding [v] (eval o X.env)
      let iv ← holding [v, ov] (eval c X.env)
      standAt pos
      holding [v, ov, iv] (setItem ov iv v)
      release [v, ov, iv] []) := by intro _; rfl) : AG X Wx (.Subscript o c pos) (gPut fo fi') :=
  pgM (pg_sub ho hi (set_any hu) ha) fun v σ H Q ⟨ρ, S, τ, w, h1, h2, h3, h4⟩ => by
    refine RdE.mk h1 h2 h4.split fun x ρ1 S1 H1 vx e1 r1 s1 rx q1 => ?_
    refine RdE.mk r1 s1 q1.split fun y ρ2 S2 H2 vy e2 r2 s2 ry q2 => ?_
    split at q2
    · rename_i S3 e3
      exact ⟨ρ2, S2, x, y, w, S3, r2, rx.evo e2, ry, (h3.evo e1).evo e2, e3, fun ρ' H' e r => q2 ρ' H' e r σ (s2.evo e)⟩
    · exact q2.elim

/-! ### x += e -/
theorem ip_of {op : Operator} {r : W → W → Store → Res W} (h : OpR X (inplaceOp op) (rdOp X.K r)) : IpA X op r := fun pins s σ H x y v u Q I rx ry q => h pins s σ H x y v u Q I rx ry q
def oIAdd (x y : W) (S : Store) : Res W := match x, y with
  | .int i, .int j => .ok (.int (i + j)) S
  | .str a, .str b => if a.length + b.length ≤ sizeLine then .ok (.str (a ++ b)) S else .fail
  | .ref n, y => match S[n]?, seqM S y with
    | some (.lst xs), some ys => if xs.length + ys.length ≤ sizeLine then .ok (.ref n) (S.set n (.lst (xs ++ ys))) else .fail
    | _, _ => .fail
  | _, _ => .fail
theorem iop_Add : OpR X (inplaceOp .Add) (rdOp X.K oIAdd) := by
  intro pins s σ H x y v u Q I rx ry q
  obtain ⟨ρ, S, a, b, hr, ra, rb, q⟩ := q
  unfold oIAdd at q
  split at q
  · cases ra
    cases rb
    exact iop_add pins s σ H _ _ v u Q I rx ry ⟨_, _, rfl, rfl, q.ok_now hr _ .int⟩
  · split at q
    · rename_i hc
      cases ra with
      | str h1 =>
        cases rb with
        | str h2 => exact iop_add_str pins s σ H _ _ v u Q I rx ry ⟨_, _, rfl, rfl, hc, q.ok_now hr _ (.str (okS_append h1 h2 hc))⟩
    · exact q.elim
  · cases ra with
    | ref hn =>
      split at q
      · rename_i xs ys e1 e2
        split at q
        · rename_i hl
          obtain ⟨zs, h1, h2⟩ := ref_lst hr hn e1
          obtain ⟨b2, us2, rfl, h3, h4⟩ := seqM_at hr rb e2
          exact iop_ext pins s σ H _ _ v u Q I rx ry ⟨_, _, zs, us2, rfl, rfl, h1, h3, by rw [h2.length, h4.length]; exact hl, q.lset hr hn (h2.append h4) (.ref hn)⟩
        · exact q.elim
      · exact q.elim
  · exact q.elim
def oISub (x y : W) (S : Store) : Res W := match x, y with
  | .int i, .int j => .ok (.int (i - j)) S
  | _, _ => .fail
theorem iop_Sub : OpR X (inplaceOp .Sub) (rdOp X.K oISub) := by
  intro pins s σ H x y v u Q I rx ry q
  obtain ⟨ρ, S, a, b, hr, ra, rb, q⟩ := q
  unfold oISub at q
  split at q
  · cases ra
    cases rb
    exact iop_sub pins s σ H _ _ v u Q I rx ry ⟨_, _, rfl, rfl, q.ok_now hr _ .int⟩
  · exact q.elim
end

/-! ### a def as it is called -/
structure FnA (P : Program) (w : World) (K : PySem.W.Frag) (mg : Str → Option Value) (base : Heap) (k n : Nat) (x : Str) (dws : List W) (fw : List W → Store → Res W) : Prop where
  ex : ∃ (f : Addr) (fd : FuncData) (ps : List Str) (dvs : List V) (ds : List Value), FnOk P w K mg base (L2.CX P w) k f fd ps (spA K n fw) ∧ mg x = some (.ref f) ∧ PySem.W.keepIn K (.ref f) = true ∧ Binds K fd ps ds ∧ Vals dvs ds ∧ ∀ ρ H, RepL K ρ H dvs dws
section
variable {X : Cx} {Wx : WX} {e : Expr} {es : List Expr} {g : FA} {pos p : Pos}
theorem a_fn {k j n : Nat} {x : Str} {dws : List W} {fw : List W → Store → Res W} (F : FnA X.prog X.w X.K X.mg X.base k n x dws fw) (hr : Room j X.A) (hj : k ≤ j) (hg : Gl X x) (tk : Takes X Wx) (ha : AA X Wx (e :: es) g) (hdb : (x == ("__debug__" : Str)) = false := by decide) (he : starEach (e :: es) X.env = (false, eval e X.env) :: starEach es X.env := by rfl) (hpl : (backTo pos (starEach es X.env)).any (·.1) = false := by rfl) :
    AE X Wx (.Call (.Name x p) (e :: es) [] pos) (mFn n fw dws g) := by
  obtain ⟨f, fd, ps, dvs, ds, h1, h2, h3, h4, h5, h6⟩ := F.ex
  exact a_call h1 (hr.mono hj) hg h2 h3 h4 h5 h6 tk ha hdb he hpl
end
end Eng
namespace Eng
open PySem PySem.Spec PyProof.Rows L2
/-! ### join, split -/
theorem okS_iff {x : Str} : okS x = true ↔ (∀ c ∈ x.cps.toList, c < 0x110000) ∧ x.length ≤ sizeLine := by
  unfold okS
  rw [Bool.and_eq_true, decide_eq_true_eq, ← Array.all_toList, List.all_eq_true]
  simp only [decide_eq_true_eq]
theorem join_cps (a : Str) : ∀ ys : List Str, ∀ c ∈ (Str.join a ys).cps.toList, c ∈ a.cps.toList ∨ ∃ y ∈ ys, c ∈ y.cps.toList
  | [], c, h => by
    have e : (Str.join a []).cps.toList = [] := rfl
    rw [e] at h
    cases h
  | [x], c, h => .inr ⟨x, by simp, h⟩
  | x :: y :: r, c, h => by
    have e : Str.join a (x :: y :: r) = x ++ a ++ Str.join a (y :: r) := rfl
    rw [e, Str.cps_append, Str.cps_append, Array.toList_append, Array.toList_append, List.mem_append, List.mem_append] at h
    rcases h with (h | h) | h
    · exact .inr ⟨x, by simp, h⟩
    · exact .inl h
    · rcases join_cps a (y :: r) c h with h | ⟨z, hz, h⟩
      · exact .inl h
      · exact .inr ⟨z, List.mem_cons_of_mem _ hz, h⟩
theorem str_len_append (x y : Str) : (x ++ y).length = x.length + y.length := by
  show (x ++ y).cps.size = _
  rw [Str.cps_append, Array.size_append]
  rfl
theorem join_len (a : Str) : ∀ ys : List Str, (Str.join a ys).length ≤ (ys.map (·.length)).sum + ys.length * a.length
  | [] => Nat.zero_le _
  | [x] => by
    show x.length ≤ _
    simp
  | x :: y :: r => by
    have e : Str.join a (x :: y :: r) = x ++ a ++ Str.join a (y :: r) := rfl
    have ih := join_len a (y :: r)
    rw [e, str_len_append, str_len_append, List.map_cons, List.sum_cons, List.length_cons, Nat.add_mul, Nat.one_mul]
    omega
theorem okS_join {a : Str} {ys : List Str} (ha : okS a = true) (hy : ∀ y ∈ ys, okS y = true) (hl : (ys.map (·.length)).sum + ys.length * a.length ≤ 16777216) : okS (Txt.join a ys) = true := by
  rw [TL.join_eq, okS_iff]
  refine ⟨fun c hc => ?_, ?_⟩
  · rcases join_cps a ys c hc with h | ⟨y, hm, h⟩
    · exact (okS_iff.mp ha).1 c h
    · exact (okS_iff.mp (hy y hm)).1 c h
  · have := join_len a ys
    rw [sizeLine_eq]
    omega
def oJoin (x : W) (ws : List W) (S : Store) : Res W := match x, ws with
  | .str a, [y] => match (match seqT y with
      | some ys => some ys
      | none => seqL S y) with
    | some ys => match strsW ys with
      | some ss => if (ss.map (·.length)).sum + ss.length * a.length ≤ 16777216 then .ok (.str (Str.join a ss)) S else .fail
      | none => .fail
    | none => .fail
  | _, _ => .fail
def oSplit (x : W) (ws : List W) (S : Store) : Res W := match x, ws with
  | .str a, [.str b] => if (b.length == 0) = false ∧ a.length + 2 ≤ sizeLine ∧ (Txt.split a b).all okS = true then .ok (.lst ((Txt.split a b).map W.str)) S else .fail
  | _, _ => .fail
def oWords (x : W) (ws : List W) (S : Store) : Res W := match x, ws with
  | .str a, [] => if a.length + 2 ≤ sizeLine ∧ (Txt.words a).all okS = true then .ok (.lst ((Txt.words a).map W.str)) S else .fail
  | _, _ => .fail
section
variable {X : Cx}
theorem m_join : MtA X "str.join" oJoin := by
  intro pins s σ H x vs v us Q I rx rv q
  obtain ⟨ρ, S, w, ws, hr, rw_, rws, q⟩ := q
  unfold oJoin at q
  split at q
  · obtain ⟨y, rfl, ry⟩ := repL1 rws
    cases rw_ with
    | str ha =>
      split at q
      · rename_i ys ey
        split at q
        · rename_i ss es
          split at q
          · rename_i hl
            have e2 := strsW_map es
            subst e2
            have fin : ∀ (p : Addr) (us2 : List V), y = .ref p → (SqL X.K H p us2 ∨ SqT X.K H p us2) → RepL X.K ρ H us2 (ss.map W.str) → wpAny (model X.prog X.w) X.A (call (.builtin "str.join") (v :: us)) (EP X pins σ Q) X.xe s := fun p us2 e hs l => by
              subst e
              have e3 := l.ofStrs
              subst e3
              refine mt_join pins s σ H _ _ v us Q I rx rv ⟨_, p, ss, rfl, rfl, hs, hl, ?_⟩
              rw [TL.join_eq]
              have ok := okS_join ha l.okStrs hl
              rw [TL.join_eq] at ok
              exact q.ok_now hr _ (.str ok)
            split at ey
            · rename_i zs ez
              cases ey
              obtain ⟨p, us2, e, h1, h2⟩ := seqT_sq ry ez
              exact fin p us2 e (.inr h1) h2
            · obtain ⟨p, us2, e, h1, h2⟩ := seqL_sq hr ry ey
              exact fin p us2 e (.inl h1) h2
          · exact q.elim
        · exact q.elim
      · exact q.elim
  · exact q.elim
theorem m_split : MtA X "str.split" oSplit := by
  intro pins s σ H x vs v us Q I rx rv q
  obtain ⟨ρ, S, w, ws, hr, rw_, rws, q⟩ := q
  unfold oSplit at q
  split at q
  · obtain ⟨y, rfl, ry⟩ := repL1 rws
    cases rw_
    cases ry
    split at q
    · rename_i hc
      exact mt_split pins s σ H _ _ v us Q I rx rv ⟨_, _, rfl, rfl, hc.1, hc.2.1, fun p hp => q.lst hr (RepL.strs _ (fun z hz => List.all_eq_true.mp hc.2.2 z hz)) hp⟩
    · exact q.elim
  · exact q.elim
theorem m_words : MtA X "str.split" oWords := by
  intro pins s σ H x vs v us Q I rx rv q
  obtain ⟨ρ, S, w, ws, hr, rw_, rws, q⟩ := q
  unfold oWords at q
  split at q
  · cases rws
    cases rw_
    split at q
    · rename_i hc
      exact mt_words pins s σ H _ _ v us Q I rx rv ⟨_, rfl, rfl, hc.1, fun p hp => q.lst hr (RepL.strs _ (fun z hz => List.all_eq_true.mp hc.2 z hz)) hp⟩
    · exact q.elim
  · exact q.elim
end
end Eng
namespace Eng
open PySem PySem.Spec PyProof.Rows L2
/-! ### dict comprehensions: keys ints and texts, or tuples of these -/
theorem dictSet_any {X : Cx} {pins : List (Addr × Obj)} {σ : L2.St} {H H' : Hp} {s : Shared} {E : Value → Shared → Prop} {D : Addr} {y v : V} {u r : Value} {Q : Unit → Shared → Prop} (hu : X.A.units + 1 < cLine) (J : L2.Inv X pins σ H s) (g : DPut H D y v H') (ry : RelV y u) (rv : RelV v r)
    (h : ∀ s', L2.Inv X pins σ H' s' → Q () s') : wpAny (model X.prog X.w) X.A (dictSet D u r) Q E s := by
  rcases g with ⟨kvs, k, hD, hy, hl, rfl⟩ | ⟨kvs, k, b, hD, hy, hb, hl, rfl⟩
  · subst hy
    exact d_dictSet J hD hl ry rv h
  · subst hy
    obtain rfl : u = Value.ref b := ry
    obtain ⟨c1, c2, xs, rel, dd⟩ := dt_of J.hok hD
    have hlen := length_putK kvs k v
    refine wpAny_dictSet_heap (hsz := by rw [← Paired.length rel]; exact c1) (show (tupleKind (mixKind X.prog X.w)).room X.A from by show X.A.units < cLine; omega) (key_of J.hok hb) dd fun h' dd' hs => h _ ?_
    obtain ⟨ob, es, ep, g1, g2, g3, g4, _, g5⟩ := dd'
    refine d_write J (by rw [hD]; exact True.intro) hs ⟨ob, g1⟩ ⟨by omega, c2, _, (rel.put k hb rv).keeps fun c ys ec => ?_, ob, es, ep, g1, g2, g3, g4, g5⟩
    have hne : c ≠ D := ne_of ec hD fun z => nomatch z
    rw [upd_ne hne]
    exact ec

/-- the reading: o0 is the empty dict at D -/
def tDcA (o0 : HO) (wi : TI) (g : TG) (tt : TT) (tk tv : TE) (vs : List Nat) : TE := fun σ H Q => wi σ H fun J H1 => ∀ D, H1 D = none → ∃ W : Nat → Nat → Hp → Prop, (∃ m, W 0 m (upd H1 D o0)) ∧ ∀ i m H, W i m H →
  (J.stop i H ∧ Q (.ref D) H) ∨ (J.go i H ∧ ∃ Nx : Hp → Prop, (∀ H', Nx H' → ∃ m', m' < m ∧ W (i + 1) m' H') ∧ ∀ x H', J.yld i H x H' → g x (L2.wipe σ vs) H' fun σ2 H2 => L2.wipe σ2 vs = L2.wipe σ vs ∧ tt σ2 H2 fun b H3 =>
    if b = true then tk σ2 H3 fun y H4 => tv σ2 H4 fun z H5 => ∃ H6, DPut H5 D y z H6 ∧ Nx H6 else Nx H3)
section
variable {X : Cx}
theorem dcA_core {o0 : HO} (ho0 : o0 = .dK [] ∨ o0 = .dT []) (hu : X.A.units + 1 < cLine) {pins : List (Addr × Obj)} {s0 : Shared} {σ : L2.St} {H : Hp} {Q : VK} {kx vx tg it : Expr} {ifs : List Expr} {scope : Scope} {own : List (Str × Nat)} {pos pos' : Pos} {wi : TI} {g : TG} {tt : TT} {tk tv : TE} {use : Option (Value → Sem Unit)} {Qf : Value → Shared → Prop}
    (hcalm : X.calm = true) (hnd : X.N.Nodup) (J0 : L2.Inv X pins σ H s0) (hit : PI X tg it wi) (bk : BlkOk X.N X.env.scope scope own)
    (hg : ∀ (s : Shared) (H : Hp) (C : Addr) (cl : List (Str × Addr)) (fp : List Addr), PG (X.blk s H scope (compEnvC scope cl C X.env) fp) tg g)
    (ht : ∀ (s : Shared) (H : Hp) (C : Addr) (cl : List (Str × Addr)) (fp : List Addr), PTs (X.blk s H scope (compEnvC scope cl C X.env) fp) ifs tt)
    (hk : ∀ (s : Shared) (H : Hp) (C : Addr) (cl : List (Str × Addr)) (fp : List Addr), PE (X.blk s H scope (compEnvC scope cl C X.env) fp) kx tk)
    (hv : ∀ (s : Shared) (H : Hp) (C : Addr) (cl : List (Str × Addr)) (fp : List Addr), PE (X.blk s H scope (compEnvC scope cl C X.env) fp) vx tv) (hs : ∀ x, foldedSetIterable it X.env x = pure x)
    (h : tDcA o0 wi g tt tk tv (own.map (·.2)) σ H Q)
    (hend : ∀ D C s' m H', L2.Inv X pins σ H' s' → Q (.ref D) H' → s'.heap.Ns C m → FpOk X pins H' C → compPost (model X.prog X.w) X.A X.xe use Qf (.ref D) C (.ok .next) s') :
    wpAny (model X.prog X.w) X.A (comprehension (.DictComp kx vx [⟨tg, it, ifs, 0⟩] scope pos) scope X.env pos' newDict false (eval it X.env) use) Qf X.xe s0 := by
  have clo : ∀ p ∈ scope.names, p.2 = .free → ∃ c, X.env.cells.lookup p.1 = some c := fun p hp e => (bk.free p hp e).elim (fun z => J0.ok.has _ (.inl z)) fun z => J0.ok.has _ (.inr z)
  refine wpAny_comprehension_free (use := use) rfl hs (closure_ok clo) bk.kind (fun p hp e => by rw [bk.uniq p hp, e]) ?_
  refine thn (hit.run pins s0 σ H _ J0 h) fun _ _ hx => thn hx fun itv sa ha => ?_
  obtain ⟨ia, fp, tn, It, Ha, rfl, Ja, Tn, sta, fpa, q⟩ := ha
  refine wpAny_newObj_type (newEnv_comp ?_)
  obtain ⟨D, eD⟩ : ∃ D, D = sa.heap.objs.size := ⟨_, rfl⟩
  have freshD : Ha D = none := Ja.hok.fresh (Nat.le_of_eq eD.symm)
  obtain ⟨W, ⟨m0, w0⟩, turn⟩ := q D freshD
  -- the state with the new dict
  obtain ⟨sb, esb⟩ : ∃ sb : Shared, sb = { sa with heap := sa.heap.push { cls := .type "dict", data := .dict #[] } } := ⟨_, rfl⟩
  have esh : sb.heap = sa.heap.push { cls := .type "dict", data := .dict #[] } := by rw [esb]
  obtain ⟨Hb, eHb⟩ : ∃ Hb, Hb = upd Ha D o0 := ⟨_, rfl⟩
  have Jb : L2.Inv X pins σ Hb sb := by
    rw [esb, eHb]
    refine Ja.laid (t' := sa.toks) (fun b o e => Heap.get?_push_of_some _ e) (Nat.le_of_eq eD.symm) ?_
    rw [eD]
    rcases ho0 with z | z
    · rw [z]; exact dk_empty sa.heap Ja.big
    · rw [z]; exact dt_empty sa.heap Ja.big
  have below : ∀ b ∈ fp, b < sa.heap.objs.size := fun b hb => let ⟨_, e, _⟩ := Tn.obj _ _ sta b hb; Heap.lt_size e
  have fpb : ∀ b ∈ fp, FpOk X pins Hb b ∧ b < sb.heap.objs.size := fun b hb => by
    have lt := below b hb
    have ne : b ≠ D := by rw [eD]; exact Nat.ne_of_lt lt
    refine ⟨⟨?_, (fpa b hb).2⟩, ?_⟩
    · rw [eHb, upd_ne ne]; exact (fpa b hb).1
    · rw [esh, Heap.size_push]; exact Nat.lt_succ_of_lt lt
  have stb : tn 0 sb.heap := Tn.keep _ _ _ sta fun b _ o e => by rw [esh]; exact Heap.get?_push_of_some _ e
  have Jc := block_start Jb bk hnd fpb
  have gA := hg sb Hb sb.heap.objs.size (cellsFrom (sb.heap.objs.size + 1) scope.names (cloFrom X.env.cells scope.names [])) fp
  have tA := ht sb Hb sb.heap.objs.size (cellsFrom (sb.heap.objs.size + 1) scope.names (cloFrom X.env.cells scope.names [])) fp
  have kA := hk sb Hb sb.heap.objs.size (cellsFrom (sb.heap.objs.size + 1) scope.names (cloFrom X.env.cells scope.names [])) fp
  have vA := hv sb Hb sb.heap.objs.size (cellsFrom (sb.heap.objs.size + 1) scope.names (cloFrom X.env.cells scope.names [])) fp
  rw [← eD, ← esb]
  show codeAny _ _ (.compStart (.DictComp kx vx [⟨tg, it, ifs, 0⟩] scope pos) 0 (.ref ia) (.ref D) (compEnvC scope (cellsFrom (sb.heap.objs.size + 1) scope.names (cloFrom X.env.cells scope.names [])) sb.heap.objs.size X.env)) (compPost (model X.prog X.w) X.A X.xe use Qf (.ref D) sb.heap.objs.size) { sb with heap := pushCells (sb.heap.push { cls := .type "dict", data := .dict #[] }) scope.names }
  generalize ece : compEnvC scope (cellsFrom (sb.heap.objs.size + 1) scope.names (cloFrom X.env.cells scope.names [])) sb.heap.objs.size X.env = cenv at Jc gA tA kA vA ⊢
  have locC : cenv.locals = sb.heap.objs.size := by rw [← ece]; rfl
  have outb : ∀ b ∈ fp, Hb b = none := fun b hb => (fpb b hb).1.1
  rw [← eHb] at w0
  generalize esc : ({ sb with heap := pushCells (sb.heap.push { cls := .type "dict", data := .dict #[] }) scope.names } : Shared) = sc at Jc ⊢
  have stc : tn 0 sc.heap := Tn.keep _ _ _ stb fun b _ o e => by rw [← esc]; exact pushCells_keeps _ _ _ _ (Heap.get?_push_of_some _ e)
  -- the block's context
  generalize eB : X.blk sb Hb scope cenv fp = B at Jc gA tA kA vA
  have bA : B.A = X.A := by rw [← eB]
  have bP : B.prog = X.prog := by rw [← eB]
  have bW : B.w = X.w := by rw [← eB]
  have bK : B.K = X.K := by rw [← eB]
  have bC : B.calm = true := by rw [← eB]; exact hcalm
  have bX : B.xe = fun _ _ => False := by rw [← eB]
  have free_fp : ∀ {σ' : L2.St} {H' : Hp} {s' : Shared}, L2.Inv B [] σ' H' s' → (∀ b ∈ fp, H' b = none) → ∀ b ∈ fp, FpOk B [] H' b := fun {σ' H' s'} J' hn b hb => by
    have bpn : B.pn = [] := by rw [← eB]
    have bex : B.ex = fp := by rw [← eB]
    have hbx : b ∈ B.ex := by rw [bex]; exact hb
    refine ⟨hn b hb, (J'.ok.exf b hbx).1, J'.ok.exfs b hbx, .inl hbx, fun x c e => (J'.ok.exf b hbx).2 x c e, fun p hp => ?_⟩
    rw [bpn] at hp
    cases hp
  have body : codeAny (model X.prog X.w) X.A (.compLoop (.DictComp kx vx [⟨tg, it, ifs, 0⟩] scope pos) 0 (.ref ia) (.ref D) cenv) (compPost (model X.prog X.w) X.A X.xe use Qf (.ref D) sb.heap.objs.size) sc := by
    refine compLoop_anyD (fun n s' => ∃ i H', L2.Inv B [] (L2.wipe σ (own.map (·.2))) H' s' ∧ tn i s'.heap ∧ (∀ b ∈ fp, H' b = none) ∧ W i n H') ?_ m0 ⟨0, Hb, Jc, stc, outb, w0⟩
    rintro n s1 ⟨i, H1, J1, st1, n1, w1⟩
    subst eB
    rcases turn i n H1 w1 with ⟨stop, fin⟩ | ⟨go, Nx, toN, step⟩
    · refine thnF (Tn.done (X.blk sb Hb scope cenv fp) rfl rfl rfl hcalm i [] s1 _ H1 (fun _ _ => False) J1 (free_fp J1 n1) st1 stop) fun r s2 ⟨er, J2⟩ => ?_
      subst er
      have back : L2.Inv X pins σ H1 s2 := Jb.call' (ch := fp) J2.os J2.base J2.hok J2.bare fun b hb => let z := (fpb b hb).1.2; ⟨z.2.2.1, z.1, z.2.2.2.1, z.2.2.2.2⟩
      have cn : H1 sb.heap.objs.size = none := by rw [← locC]; exact J2.free
      obtain ⟨mm, hm, _⟩ := J2.loc
      have hm' : s2.heap.Ns sb.heap.objs.size mm := by rw [← locC]; exact hm
      exact hend D _ s2 mm H1 back fin hm' (Jb.fpOk (Nat.le_refl _) cn)
    · refine thnF (Tn.item (X.blk sb Hb scope cenv fp) rfl rfl rfl hcalm i [] s1 _ H1 (fun _ _ => False) J1 (free_fp J1 n1) st1 go) fun r s2 ⟨u, er, h2⟩ => ?_
      subst er
      refine thnF h2 fun _ s3 ⟨x, H3, J3, r3, y3, st3, n3⟩ => ?_
      have J3p := J3.pinned (free_fp J3 n3) (Tn.obj _ _ st3)
      refine thnF (gA.run _ s3 _ H3 x u _ J3p r3 (step x H3 y3)) fun _ s4 ⟨σ4, H4, J4, e4, q4⟩ => ?_
      refine thnF (tA.run _ s4 σ4 H4 _ J4 q4) fun b s5 ⟨H5, J5, q5⟩ => ?_
      -- the turn's end
      have next : ∀ {s' : Shared} {H' : Hp}, L2.Inv (X.blk sb Hb scope cenv fp) ([] ++ pinsAt fp s3.heap) σ4 H' s' → Nx H' → ∃ m, m < n ∧ ∃ i H', L2.Inv (X.blk sb Hb scope cenv fp) [] (L2.wipe σ (own.map (·.2))) H' s' ∧ tn i s'.heap ∧ (∀ b ∈ fp, H' b = none) ∧ W i m H' := fun {s' H'} J' nx => by
        obtain ⟨m', lt, w'⟩ := toN H' nx
        have held : ∀ b ∈ fp, ∀ o, s3.heap.get? b = some o → s'.heap.get? b = some o ∧ H' b = none := fun b hb o e => by
          have z := J'.pin (b, o) (List.mem_append_right _ (List.mem_append_right _ (mem_pinsAt hb e)))
          exact ⟨z.1, z.2.1⟩
        refine ⟨m', lt, i + 1, H', (J'.unpinned (pins := [])).weak (by rw [← e4, wipe_length]) (fun j v e => ?_), Tn.keep _ _ _ st3 fun b hb o e => (held b hb o e).1, fun b hb => ?_, w'⟩
        · rw [← e4] at e
          exact (wipe_some e).1
        · obtain ⟨o, e, _⟩ := Tn.obj _ _ st3 b hb
          exact (held b hb o e).2
      cases b with
      | false =>
        simp only [Bool.false_eq_true, if_false] at q5 ⊢
        exact next J5 q5
      | true =>
        simp only [if_true] at q5 ⊢
        refine thnF (kA.run _ s5 σ4 H5 _ J5 q5) fun z s6 ⟨yk, H6, J6, r6, q6⟩ => ?_
        refine thnF (vA.run _ s6 σ4 H6 _ J6 q6) fun z2 s7 ⟨yv, H7, J7, r7, H8, dp, nx⟩ => ?_
        exact dictSet_any (X := X.blk sb Hb scope cenv fp) hu J7 dp r6 r7 fun s8 J8 => next J8 nx
  exact codeAny_compStart_dict body (Tn.self X.A 0 _ _ _ stc body)
theorem pe_dcA {o0 : HO} (ho0 : o0 = .dK [] ∨ o0 = .dT []) (hu : X.A.units + 1 < cLine) {kx vx tg it : Expr} {ifs : List Expr} {scope : Scope} {own : List (Str × Nat)} {pos : Pos} {wi : TI} {g : TG} {tt : TT} {tk tv : TE} (hc : X.calm = true) (hN : X.N.Nodup) (hi : PI X tg it wi) (ok : BlkOk X.N X.env.scope scope own)
    (hg : ∀ (s : Shared) (H : Hp) (C : Addr) (cl : List (Str × Addr)) (fp : List Addr), PG (X.blk s H scope (compEnvC scope cl C X.env) fp) tg g) (ht : ∀ (s : Shared) (H : Hp) (C : Addr) (cl : List (Str × Addr)) (fp : List Addr), PTs (X.blk s H scope (compEnvC scope cl C X.env) fp) ifs tt)
    (hk : ∀ (s : Shared) (H : Hp) (C : Addr) (cl : List (Str × Addr)) (fp : List Addr), PE (X.blk s H scope (compEnvC scope cl C X.env) fp) kx tk)
    (hv : ∀ (s : Shared) (H : Hp) (C : Addr) (cl : List (Str × Addr)) (fp : List Addr), PE (X.blk s H scope (compEnvC scope cl C X.env) fp) vx tv) (hs : ∀ x, foldedSetIterable it X.env x = pure x) :
    PE X (.DictComp kx vx [⟨tg, it, ifs, 0⟩] scope pos) (tDcA o0 wi g tt tk tv (own.map (·.2))) := by
  refine ⟨fun pins s σ H Q J h => ?_⟩
  rw [arm_eval_DictComp]
  refine dcA_core ho0 hu hc hN J hi ok hg ht hk hv hs h fun D C s' m H' J' q hn f => ⟨m, hn, fun h'' sb => ?_⟩
  exact ⟨.ref D, H', J'.turned (t' := s'.toks) (fun b o hb e => (sb.2 b hb).trans e) f.1 f.2.1 f.2.2.2.1 f.2.2.2.2.1 f.2.2.2.2.2, rfl, q⟩
end
end Eng
namespace Eng
open PySem PySem.Spec PyProof.Rows L2
def putOb (o : Ob) (k v : W) : Option Ob := match o with
  | .dK kvs => match keyW k with
    | some key => if kvs.length < sizeLine then some (.dK (putW kvs key v)) else none
    | none => none
  | .dT kvs => match k with
    | .tup xs => match keysW xs with
      | some key => if kvs.length < sizeLine then some (.dT (putW kvs key v)) else none
      | none => none
    | _ => none
  | _ => none
theorem putOb_ok {K : PySem.W.Frag} {ρ : Rho} {H : Hp} {D : Addr} {o o' : Ob} {k v : W} {kv vv : V} (h : ObRep K ρ H o D) (rk : Rep K ρ H kv k) (rv : Rep K ρ H vv v) (e : putOb o k v = some o') :
    ∃ ho, DPut H D kv vv (upd H D ho) ∧ ∀ ρ', Ext ρ H ρ' (upd H D ho) → ObRep K ρ' (upd H D ho) o' D := by
  unfold putOb at e
  split at e
  · rename_i kvs
    split at e
    · rename_i key ek
      split at e
      · rename_i hl
        cases e
        obtain ⟨kws, h1, h2, h3⟩ := h
        have hlen : kws.length = kvs.length := by simpa using congrArg List.length h2
        obtain ⟨p1, p2⟩ := putW_rep (k := key) h2 h3 rv
        rw [keyW_rep rk ek]
        exact ⟨_, DPut.k (k := key) h1 (by rw [hlen]; exact hl), fun ρ' ex => ⟨_, upd_same, p1, p2.ext ex⟩⟩
      · cases e
    · cases e
  · rename_i kvs
    split at e
    · rename_i xs
      split at e
      · rename_i key ek
        split at e
        · rename_i hl
          cases e
          obtain ⟨kws, h1, h2, h3⟩ := h
          have hlen : kws.length = kvs.length := by simpa using congrArg List.length h2
          obtain ⟨p1, p2⟩ := putW_rep (k := key) h2 h3 rv
          cases rk with
          | tup ht hr =>
            have e2 := keysW_rep hr ek
            subst e2
            exact ⟨_, DPut.t h1 ht.1 (by rw [hlen]; exact hl), fun ρ' ex => ⟨_, upd_same, p1, p2.ext ex⟩⟩
        · cases e
      · cases e
    · cases e
  · cases e
def dcompGo (k : Wk) (g : W → ASt → Option ASt) (ft : FT) (fk fv : FE) (τ : ASt) : Nat → Nat → Ob → Store → Res Ob
  | 0, i, acc, S => if k.stop i S = true then .ok acc S else .fail
  | m + 1, i, acc, S => match k.item i S with
    | none => .fail
    | some w => match g w τ with
      | none => .fail
      | some τ1 => (noX (ft τ1 S)).bind fun b S2 => if b = true then (noX (fk τ1 S2)).bind fun y S3 => (noX (fv τ1 S3)).bind fun z S4 => match putOb acc y z with
          | some acc' => dcompGo k g ft fk fv τ m (i + 1) acc' S4
          | none => .fail
        else dcompGo k g ft fk fv τ m (i + 1) acc S2
def mDcomp (o0 : Ob) (vs : List Nat) (fi : FI) (g : W → ASt → Option ASt) (ft : FT) (fk fv : FE) : FE := fun τ S => (fi τ S).bind fun k S1 => (dcompGo k g ft fk fv (wipeW τ vs) k.len 0 o0 S1).bind fun o S2 => .ok (.ref S2.length) (S2 ++ [o])
/-- the empty dict of a kind -/
def obH : Ob → HO
  | .dT _ => .dT []
  | _ => .dK []
structure DcAt (K : PySem.W.Frag) (ρ : Rho) (H : Hp) (D : Addr) (h0 : HO) (o : Ob) (ρ2 : Rho) (S2 : Store) (H2 : Hp) : Prop where
  ext : Ext (ρ.hide D) (upd H D h0) ρ2 H2
  hid : ρ2.hid = D :: ρ.hid
  stay : ∀ a ∈ ρ.hid, H2 a = H a
  rel : Rel K ρ2 S2 H2
  acc : ObRep K ρ2 H2 o D
theorem DcAt.go {K : PySem.W.Frag} {ρ ρ2 ρ3 : Rho} {H H2 H3 : Hp} {D : Addr} {h0 : HO} {o : Ob} {S2 S3 : Store} (h : DcAt K ρ H D h0 o ρ2 S2 H2) (e : Evo ρ2 H2 ρ3 H3) (r : Rel K ρ3 S3 H3) : DcAt K ρ H D h0 o ρ3 S3 H3 :=
  ⟨h.ext.trans e.toExt, e.hid.trans h.hid, fun a ha => (e.stay a (by rw [h.hid]; exact List.mem_cons_of_mem _ ha)).trans (h.stay a ha), r, h.acc.evo e (e.stay D (by rw [h.hid]; exact List.mem_cons_self))⟩
theorem DcAt.fin {K : PySem.W.Frag} {ρ ρ2 : Rho} {S : Store} {H H2 : Hp} {D : Addr} {h0 : HO} {o : Ob} {S2 : Store} (h : DcAt K ρ H D h0 o ρ2 S2 H2) (r0 : Rel K ρ S H) (e0 : H D = none) :
    ∃ ρ3 : Rho, Evo ρ H ρ3 H2 ∧ Rel K ρ3 (S2 ++ [o]) H2 ∧ Rep K ρ3 H2 (.ref D) (.ref S2.length) := by
  have nd : D ∉ ρ.hid := (r0.notin e0).2
  have nr : D ∉ ρ2.refs := h.rel.hidN D (by rw [h.hid]; exact List.mem_cons_self)
  have un : Ext ρ2 H2 ⟨ρ2.refs ++ [D], ρ.hid⟩ H2 := ⟨⟨[D], rfl⟩, fun a u q n => ⟨q, by
    show a ∉ ρ2.refs ++ [D]
    simp only [List.mem_append, List.mem_singleton]
    rintro (z | z)
    · exact n.1 z
    · exact n.2 (by rw [h.hid, z]; exact List.mem_cons_self), fun z => n.2 (by rw [h.hid]; exact List.mem_cons_of_mem _ z)⟩⟩
  refine ⟨⟨ρ2.refs ++ [D], ρ.hid⟩, ⟨((Ext.hide (o := h0) e0).trans h.ext).trans un, rfl, h.stay⟩, ⟨?_, ?_, fun n ob a q1 q2 => ?_, fun a ha => ?_, fun a ha => ?_⟩, .ref ?_⟩
  · show (ρ2.refs ++ [D]).length = _
    rw [List.length_append, List.length_append, h.rel.len]
    rfl
  · show (ρ2.refs ++ [D]).Nodup
    rw [List.nodup_append]
    refine ⟨h.rel.nd, by simp, fun a ha b hb => ?_⟩
    have : b = D := by simpa using hb
    subst this
    exact fun z => nr (z ▸ ha)
  · have q2 : (ρ2.refs ++ [D])[n]? = some a := q2
    by_cases hn : n < S2.length
    · rw [List.getElem?_append_left hn] at q1
      rw [List.getElem?_append_left (by rw [h.rel.len]; exact hn)] at q2
      exact (h.rel.obs n ob a q1 q2).ext un rfl
    · have hl := h.rel.len
      rw [List.getElem?_append_right (by omega)] at q1
      rw [List.getElem?_append_right (by omega)] at q2
      have z0 : n - S2.length = 0 := by
        have := (List.getElem?_eq_some_iff.mp q1).1
        simpa using this
      rw [z0] at q1
      rw [hl, z0] at q2
      cases q1
      cases q2
      exact h.acc.ext un rfl
  · obtain ⟨u, q⟩ := r0.hidT a ha
    exact ⟨u, by rw [h.stay a ha]; exact q⟩
  · show a ∉ ρ2.refs ++ [D]
    simp only [List.mem_append, List.mem_singleton]
    rintro (z | z)
    · exact h.rel.hidN a (by rw [h.hid]; exact List.mem_cons_of_mem _ ha) z
    · rw [z] at ha
      exact nd ha
  · show (ρ2.refs ++ [D])[S2.length]? = some D
    rw [← h.rel.len]
    simp
section
variable {X : Cx} {Wx : WX} {tg it kx vx : Expr} {ifs : List Expr} {fk fv : FE} {ft : FT} {cg : W → ASt → Option ASt} {fi : FI} {pos : Pos} {t : TG}
theorem dc_noexc {k : Wk} {τ : ASt} {x : XV} {S' : Store} : ∀ (m i : Nat) (acc : Ob) (S : Store), dcompGo k cg ft fk fv τ m i acc S ≠ .exc x S'
  | 0, i, acc, S => by
    intro h
    unfold dcompGo at h
    split at h <;> cases h
  | m + 1, i, acc, S => by
    intro h
    unfold dcompGo at h
    split at h
    · cases h
    · split at h
      · cases h
      · cases h5 : ft _ S with
        | fail => rw [h5] at h; cases h
        | exc _ _ => rw [h5] at h; cases h
        | ok b S5 =>
          rw [h5] at h
          simp only [noX, Res.bind_ok] at h
          split at h
          · cases h6 : fk _ S5 with
            | fail => rw [h6] at h; cases h
            | exc _ _ => rw [h6] at h; cases h
            | ok y S6 =>
              rw [h6] at h
              simp only [noX, Res.bind_ok] at h
              cases h7 : fv _ S6 with
              | fail => rw [h7] at h; cases h
              | exc _ _ => rw [h7] at h; cases h
              | ok z S7 =>
                rw [h7] at h
                simp only [noX, Res.bind_ok] at h
                split at h
                · exact dc_noexc m _ _ _ h
                · cases h
          · exact dc_noexc m _ _ _ h
theorem dcomp_go {K : PySem.W.Frag} {k : Wk} {ρ : Rho} {S : Store} {H : Hp} {σ : L2.St} {τ : ASt} {J : It} {vs : List Nat} {Q : VK} {o0 : Ob} (ho0 : o0 = .dK [] ∨ o0 = .dT []) (hg : CG K t cg vs) (r1 : Rel K ρ S H) (s1 : StRep K ρ H σ τ) (wk : WalkRep K ρ H k J)
    {Xc : XV → Rho → Store → Hp → Prop} {R : Ob → Rho → Store → Hp → Prop} (q : ∀ o S', dcompGo k cg ft fk fv (wipeW τ vs) k.len 0 o0 S = .ok o S' → ∀ ρ' H', Evo ρ H ρ' H' → Rel K ρ' (S' ++ [o]) H' → R o ρ' S' H')
    (qf : ∃ o S', dcompGo k cg ft fk fv (wipeW τ vs) k.len 0 o0 S = .ok o S')
    (fin : ∀ o ρ' S' H' D, Evo ρ H ρ' H' → Rel K ρ' (S' ++ [o]) H' → Rep K ρ' H' (.ref D) (.ref S'.length) → R o ρ' S' H' → Q (.ref D) H') :
    ∀ D, H D = none → ∃ W : Nat → Nat → Hp → Prop, (∃ m, W 0 m (upd H D (obH o0))) ∧ ∀ i m H, W i m H →
      (J.stop i H ∧ Q (.ref D) H) ∨ (J.go i H ∧ ∃ Nx : Hp → Prop, (∀ H', Nx H' → ∃ m', m' < m ∧ W (i + 1) m' H') ∧ ∀ x H', J.yld i H x H' → t x (L2.wipe σ vs) H' fun σ2 H2 => L2.wipe σ2 vs = L2.wipe σ vs ∧ RdT K Wx0 ft σ2 H2 fun b H3 =>
        if b = true then RdE K Wx0 fk σ2 H3 fun y H4 => RdE K Wx0 fv σ2 H4 fun z H5 => ∃ H6, DPut H5 D y z H6 ∧ Nx H6 else Nx H3) := fun D hD => by
  obtain ⟨oE, SE, eE⟩ := qf
  let Inv2 : Nat → Nat → Hp → Prop := fun i m H2 => ∃ acc ρ2 S2, DcAt K ρ H D (obH o0) acc ρ2 S2 H2 ∧ dcompGo k cg ft fk fv (wipeW τ vs) m i acc S2 = .ok oE SE
  refine ⟨Inv2, ⟨k.len, o0, ρ.hide D, S, ⟨Ext.refl, rfl, fun a ha => ?_, r1.hide hD, ?_⟩, eE⟩, ?_⟩
  · obtain ⟨u, qu⟩ := r1.hidT a ha
    rw [upd_ne (ne_of_none qu hD)]
  · rcases ho0 with rfl | rfl
    · exact ⟨[], upd_same, rfl, .nil⟩
    · exact ⟨[], upd_same, rfl, .nil⟩
  rintro i m H2 ⟨acc, ρ2, S2, ca, er⟩
  have extk : Ext ρ H ρ2 H2 := (Ext.hide hD).trans ca.ext
  obtain ⟨wi, ws⟩ := wk ρ2 S2 H2 extk ca.rel
  cases m with
  | zero =>
    unfold dcompGo at er
    split at er
    · rename_i hst
      cases er
      obtain ⟨ρ3, f1, f2, f3⟩ := ca.fin r1 hD
      exact .inl ⟨ws i hst, fin _ ρ3 _ H2 D f1 f2 f3 (q _ _ eE ρ3 H2 f1 f2)⟩
    · cases er
  | succ m =>
    unfold dcompGo at er
    split at er
    · cases er
    · rename_i w ew
      split at er
      · cases er
      · rename_i τ1 eg
        obtain ⟨go, yl⟩ := wi i w ew
        refine .inr ⟨go, Inv2 (i + 1) m, fun H' h => ⟨m, Nat.lt_succ_self _, h⟩, fun x H3 hy => ?_⟩
        obtain ⟨ev3, r3, rx⟩ := yl x H3 hy
        have s0 : StRep K ρ2 H3 (L2.wipe σ vs) (wipeW τ vs) := ((s1.ext extk).evo ev3).wipe vs
        have ca3 := ca.go ev3 r3
        refine hg.go s0 rx eg fun σ2 s2 w2 => ⟨?_, ?_⟩
        · rw [w2, wipe_wipe fun _ h => h]
        refine ⟨ρ2, S2, τ1, r3, s2, ?_⟩
        cases h5 : ft τ1 S2 with
        | fail => rw [h5] at er; cases er
        | exc _ _ => rw [h5] at er; cases er
        | ok b S5 =>
          rw [h5] at er
          simp only [noX, Res.bind_ok] at er
          intro ρ5 H5 e5 r5
          have ca5 := ca3.go e5 r5
          cases b with
          | false => exact ⟨acc, ρ5, S5, ca5, er⟩
          | true =>
            rw [if_pos rfl] at er
            refine ⟨ρ5, S5, τ1, r5, s2.evo e5, ?_⟩
            cases h6 : fk τ1 S5 with
            | fail => rw [h6] at er; cases er
            | exc _ _ => rw [h6] at er; cases er
            | ok y S6 =>
              rw [h6] at er
              simp only [noX, Res.bind_ok] at er
              intro ρ6 H6 e6 r6 vk rk
              have ca6 := ca5.go e6 r6
              refine ⟨ρ6, S6, τ1, r6, (s2.evo e5).evo e6, ?_⟩
              cases h7 : fv τ1 S6 with
              | fail => rw [h7] at er; cases er
              | exc _ _ => rw [h7] at er; cases er
              | ok z S7 =>
                rw [h7] at er
                simp only [noX, Res.bind_ok] at er
                intro ρ7 H7 e7 r7 vz rz
                have ca7 := ca6.go e7 r7
                split at er
                · rename_i acc' ea
                  obtain ⟨ho, dp, ob⟩ := putOb_ok ca7.acc (rk.evo e7) rz ea
                  have hm : D ∈ ρ7.hid := by rw [ca7.hid]; exact List.mem_cons_self
                  refine ⟨_, dp, acc', ρ7, S7, ⟨ca7.ext.trans (Ext.hset hm), ca7.hid, fun a ha => ?_, ca7.rel.hset hm, ob ρ7 (Ext.hset hm)⟩, er⟩
                  rw [upd_ne fun z => (r1.notin hD).2 (by rw [← z]; exact ha)]
                  exact ca7.stay a ha
                · cases er
theorem dcomp_split {K : PySem.W.Frag} {ρ : Rho} {H : Hp} {R : W → Rho → Store → Hp → Prop} {Xc : XV → Rho → Store → Hp → Prop} {k : Wk} {τ : ASt} {o0 : Ob} {S1 : Store} (h : ROk K ρ H R Xc ((dcompGo k cg ft fk fv τ k.len 0 o0 S1).bind fun o S2 => .ok (.ref S2.length) (S2 ++ [o]))) :
    (∃ o S', dcompGo k cg ft fk fv τ k.len 0 o0 S1 = .ok o S') ∧ ∀ o S', dcompGo k cg ft fk fv τ k.len 0 o0 S1 = .ok o S' → ∀ ρ' H', Evo ρ H ρ' H' → Rel K ρ' (S' ++ [o]) H' → R (.ref S'.length) ρ' (S' ++ [o]) H' := by
  cases e : dcompGo k cg ft fk fv τ k.len 0 o0 S1 with
  | fail => rw [e] at h; exact h.elim
  | exc x S' => exact absurd e (dc_noexc _ _ _ _)
  | ok o S' =>
    rw [e] at h
    refine ⟨⟨o, S', rfl⟩, fun o2 S2 e2 => ?_⟩
    cases e2
    exact h
theorem a_dcomp {scope : Scope} {own : List (Str × Nat)} {o0 : Ob} (ho0 : o0 = .dK [] ∨ o0 = .dT []) (hu : X.A.units + 1 < cLine) (hc : X.calm = true) (hN : X.N.Nodup) (hi : AI X Wx tg it fi) (ok : BlkOk X.N X.env.scope scope own) (hcg : CG X.K t cg (own.map (·.2)))
    (hg : ∀ (s : Shared) (H : Hp) (C : Addr) (cl : List (Str × Addr)) (fp : List Addr), PG (X.blk s H scope (compEnvC scope cl C X.env) fp) tg t) (ht : ∀ (s : Shared) (H : Hp) (C : Addr) (cl : List (Str × Addr)) (fp : List Addr), ATs (X.blk s H scope (compEnvC scope cl C X.env) fp) Wx0 ifs ft)
    (hk : ∀ (s : Shared) (H : Hp) (C : Addr) (cl : List (Str × Addr)) (fp : List Addr), AE (X.blk s H scope (compEnvC scope cl C X.env) fp) Wx0 kx fk)
    (hv : ∀ (s : Shared) (H : Hp) (C : Addr) (cl : List (Str × Addr)) (fp : List Addr), AE (X.blk s H scope (compEnvC scope cl C X.env) fp) Wx0 vx fv) (hs : ∀ x, foldedSetIterable it X.env x = pure x := by intro _; rfl) :
    AE X Wx (.DictComp kx vx [⟨tg, it, ifs, 0⟩] scope pos) (mDcomp o0 (own.map (·.2)) fi cg ft fk fv) :=
  peM (pe_dcA (o0 := obH o0) (tt := RdT X.K Wx0 ft) (tk := RdE X.K Wx0 fk) (tv := RdE X.K Wx0 fv) (by rcases ho0 with rfl | rfl; exact .inl rfl; exact .inr rfl) hu hc hN hi ok hg ht hk hv hs) fun σ H Q ⟨ρ, S, τ, h1, h2, h3⟩ => by
    refine ⟨ρ, S, τ, h1, h2, h3.split.imp (fun k ρ1 S1 H1 e1 r1 q1 J wk => ?_) fun _ _ _ _ _ _ z => z⟩
    obtain ⟨qf, qq⟩ := dcomp_split q1
    exact dcomp_go (R := fun o ρ' S' H' => RQ X.K Q (.ref S'.length) ρ' (S' ++ [o]) H') (Xc := RX X.K Wx σ) ho0 hcg r1 (h2.evo e1) wk qq qf fun o ρ' S' H' D e r rd q => q _ rd
theorem swD_true {gs : List Comprehension} {scope : Scope} {pos py : Pos} {y : Str} {l : Nat} {env : Env} (hk : env.scope.kind = .function) (hy : env.scope.names.lookup y = some .local) (hl : (py.line == pos.line) = true)
    (ha : (scope.names.any fun (n, k) => n == y && (k == .local || k == .cell)) = false) : swapsWith (.DictComp kx vx gs scope pos) (some (.Name y py)) l env = pure true := by
  have k1 : env.kindOf y = some .local := hy
  have k2 : env.blockKind = .function := by unfold Env.blockKind; rw [hk]; rfl
  unfold swapsWith
  simp only [k2, k1, ha, Expr.pos, hl]
  rfl
theorem s_setDcomp {scope : Scope} {own : List (Str × Nat)} {o0 : Ob} {i : Nat} {y : Str} {py spos : Pos} (ho0 : o0 = .dK [] ∨ o0 = .dT []) (hu : X.A.units + 1 < cLine) (hc : X.calm = true) (hN : X.N.Nodup) (hy : X.N[i]? = some y) (hyl : X.env.scope.names.lookup y = some .local)
    (hsw : swapsWith (.DictComp kx vx [⟨tg, it, ifs, 0⟩] scope pos) (some (.Name y py)) spos.line X.env = pure true) (hi : AI X Wx tg it fi) (ok : BlkOk X.N X.env.scope scope own) (hcg : CG X.K t cg (own.map (·.2)))
    (hg : ∀ (s : Shared) (H : Hp) (C : Addr) (cl : List (Str × Addr)) (fp : List Addr), PG (X.blk s H scope (compEnvC scope cl C X.env) fp) tg t) (ht : ∀ (s : Shared) (H : Hp) (C : Addr) (cl : List (Str × Addr)) (fp : List Addr), ATs (X.blk s H scope (compEnvC scope cl C X.env) fp) Wx0 ifs ft)
    (hk : ∀ (s : Shared) (H : Hp) (C : Addr) (cl : List (Str × Addr)) (fp : List Addr), AE (X.blk s H scope (compEnvC scope cl C X.env) fp) Wx0 kx fk)
    (hv : ∀ (s : Shared) (H : Hp) (C : Addr) (cl : List (Str × Addr)) (fp : List Addr), AE (X.blk s H scope (compEnvC scope cl C X.env) fp) Wx0 vx fv) (hs : ∀ x, foldedSetIterable it X.env x = pure x := by intro _; rfl) :
    AS X Wx (.Assign [.Name y py] (.DictComp kx vx [⟨tg, it, ifs, 0⟩] scope pos) spos) (mAsg (mDcomp o0 (own.map (·.2)) fi cg ft fk fv) (gSet i)) := by
  refine ⟨fun pins s σ H D J ⟨ρ, S, τ, h1, h2, h3⟩ => ?_⟩
  have h3' : ROk X.K ρ H (fun w ρ1 S1 H1 => SOk X.K Wx ρ1 H1 D (.next (τ.set i (some w)) S1)) (RX X.K Wx σ) (mDcomp o0 (own.map (·.2)) fi cg ft fk fv τ S) := h3.toE h2
  have rd : tDcA (obH o0) (RdI X.K Wx fi) t (RdT X.K Wx0 ft) (RdE X.K Wx0 fk) (RdE X.K Wx0 fv) (own.map (·.2)) σ H (fun x H1 => gName i x σ H1 D.nx) := by
    refine ⟨ρ, S, τ, h1, h2, h3'.split.imp (fun k ρ1 S1 H1 e1 r1 q1 It wk => ?_) fun _ _ _ _ _ _ z => z⟩
    obtain ⟨qf, qq⟩ := dcomp_split q1
    refine dcomp_go (R := fun o ρ' S' H' => SOk X.K Wx ρ' H' D (.next (τ.set i (some (.ref S'.length))) (S' ++ [o]))) (Xc := RX X.K Wx σ) (Q := fun x H1 => gName i x σ H1 D.nx) ho0 hcg r1 (h2.evo e1) wk qq qf fun o ρ' S' H' L e r rr q => ?_
    exact q ρ' H' _ Evo.refl r (((h2.evo e1).evo e).set rr i)
  rw [exec_Assign_Name_used _ _ _ _ hsw]
  refine wpAny_bind (wpAny_standAt (wpAny_bind ?_))
  show wpAny _ X.A (do let _ ← comprehension (.DictComp kx vx [⟨tg, it, ifs, 0⟩] scope pos) scope X.env (firstIterPos [⟨tg, it, ifs, 0⟩] pos) newDict false (eval it X.env) (some (assign (.Name y py) X.env))) _ _ s
  refine wpAny_bind (thn (dcA_core (o0 := obH o0) (tt := RdT X.K Wx0 ft) (tk := RdE X.K Wx0 fk) (tv := RdE X.K Wx0 fv) (Qf := fun _ s' => SP X pins D .next s') (by rcases ho0 with rfl | rfl; exact .inl rfl; exact .inr rfl) hu hc hN J hi ok hg ht hk hv hs rd fun L C s' m H' J' q hn f => ?_) fun _ s' hq => wpAny_pure (wpAny_pure hq))
  show wpAny _ _ (assign (.Name y py) X.env (.ref L)) _ _ _
  refine wpAny_assign_Name (store_ok2 (v := V.ref L) J' hN hy (.inl hyl) rfl (fun s2 J2 ⟨a, sb, ha⟩ => ?_) (.inr hyl))
  have hCa : C ≠ a := ha.elim (fun z => by rw [z]; exact f.2.1) fun z e => f.2.2.2.2.1 y a z e.symm
  exact ⟨m, hn.sameBut sb hCa, fun h4 sb4 => ⟨_, H', J2.turned (t' := s2.toks) (fun b o hb e => (sb4.2 b hb).trans e) f.1 f.2.1 f.2.2.2.1 f.2.2.2.2.1 f.2.2.2.2.2, q⟩⟩
end
end Eng
namespace Eng
open PySem PySem.Spec PyProof.Rows L2
/-! ### making an enumerate over whatever opens -/
structure Opens (v : Value) (it : Heap → Addr) (nx : Heap → Heap) (Ok : Heap → Prop) : Prop where
  iter : ∀ (P : Program) (w : World) (A : Around) (E : Value → Shared → Prop) (s : Shared) (Q : Value → Shared → Prop), Ok s.heap → Q (.ref (it s.heap)) { s with heap := nx s.heap } → wpAny (model P w) A (pyIter v) Q E s
def enumObj (it : Addr) : Obj := { cls := .type "enumerate", data := .fields #[.none, .bool false, .ref it, rawInt 0, .none, .none] }
theorem meets_enumO {v : Value} {it : Heap → Addr} {nx : Heap → Heap} {Ok : Heap → Prop} (B : Opens v it nx Ok) :
    Meets (Builtin.«enumerate.__new__» ⟨[.type "enumerate", v], []⟩) (fun _ R s => Ok s.heap ∧ R (.ok (.ret (.ref (nx s.heap).objs.size))) { s with heap := (nx s.heap).push (enumObj (it s.heap)) }) := .of_wp fun P w A R s h => by
  obtain ⟨hp, gs, dr, tk, os⟩ := s
  obtain ⟨h1, h⟩ := h
  have hsub := sub_enumerate
  have q1 : ∀ {A' : Around} {E : Value → Shared → Prop} {Q : Value → Shared → Prop}, Q (.ref (it hp)) ⟨nx hp, gs, dr, tk, os⟩ → wpAny (model P w) A' (pyIter v) Q E ⟨hp, gs, dr, tk, os⟩ := fun q => B.iter P w _ _ ⟨hp, gs, dr, tk, os⟩ _ h1 q
  wp_walk using q1
  refine wpAny_stack_any fun st => wpAny_pure ?_
  split
  · rename_i cl _ _ _ _ _
    cases (cl == Value.type "enumerate") <;> (wp_walk using q1; exact ⟨_, rfl, h⟩)
  · wp_walk using q1
    exact ⟨_, rfl, h⟩
theorem call_enumO {P : Program} {w : World} {A : Around} {E : Value → Shared → Prop} {s : Shared} {v : Value} {it : Heap → Addr} {nx : Heap → Heap} {Ok : Heap → Prop} {Q : Value → Shared → Prop} (B : Opens v it nx Ok) (h1 : Ok s.heap)
    (h : ∀ h', IsEnum h' (nx s.heap).objs.size (it s.heap) 0 .none → h'.objs.size = (nx s.heap).objs.size + 1 → (∀ b o, (nx s.heap).get? b = some o → h'.get? b = some o) → Q (.ref (nx s.heap).objs.size) { s with heap := h' }) :
    wpAny (model P w) A (call (.type "enumerate") [v]) Q E s := by
  refine callType_new F.called_enumerate (by decide) (F.typeCall_enumerate_1 _) (F.newCall_enumerate_1 _) (fun obj => F.args_object_init_2 obj _) F.entry_enumerate_new (meets_enumO B) ⟨h1, ?_⟩
  have he : IsEnum ((nx s.heap).push (enumObj (it s.heap))) (nx s.heap).objs.size (it s.heap) 0 .none := Heap.get?_push_size _ rfl
  exact ⟨⟨_, he, rfl⟩, h _ he (Heap.size_push ..) fun b o x => Heap.get?_push_of_some _ x⟩
theorem opens_tup (a : Addr) (its : Array Value) : Opens (.ref a) (fun h => h.objs.size) (fun h => h.push { cls := .type "tuple_iterator", data := .fields #[.ref a, .int 0 0] }) (fun h => h.IsTuple a its) := ⟨fun P w A E s Q hq h => wpAny_pyIter_tuple hq h⟩
theorem opens_lst (a : Addr) (its : Array Value) : Opens (.ref a) (fun h => h.objs.size) (fun h => h.push { cls := .type "list_iterator", data := .fields #[.ref a, .int 0 0] }) (fun h => h.IsList a its) := ⟨fun P w A E s Q hq h => wpAny_pyIter_list hq h⟩
theorem opens_zip (z TI TO : Addr) : Opens (.ref z) (fun _ => z) (fun h => h) (fun h => IsZip h z TI TO .none) := ⟨fun P w A E s Q hq h => wpAny_pyIter_zip hq h⟩
/-! ### a zip amid an enumerate -/
def ZipSt (h : Heap) (z TI TO : Addr) (f : Bool) (m : Value) : Prop := h.get? z = some { cls := .type "zip", dict := none, data := .fields #[m, .bool f, .bool false, .ref TI, .ref TO], slots := #[] }
def Mark (m : Value) : Prop := m = .none ∨ ∃ T : Addr, m = rawInt T
section
variable {P : Program} {w : World} {A : Around} {E : Value → Shared → Prop} {s : Shared} {z TI TO : Addr} {f : Bool} {m : Value}
theorem wp_alive {a : Addr} {Q : Option Obj → Shared → Prop} (h : Q (s.heap.get? a) s) : wpAny (model P w) A (loadIfAlive a) Q E s := fun _ _ _ => h
theorem zs_free {Q : Bool → Shared → Prop} (hz : ZipSt s.heap z TI TO f m) (hm : Mark m) (hT : Q true s) (hF : ∀ h' m', Mark m' → ZipSt h' z TI TO true m' → Heap.SameBut z s.heap h' → Q false { s with heap := h' }) :
    wpAny (model P w) A (Builtin.SmallTypes.ownedTupleIsFree (.ref z)) Q E s := by
  unfold Builtin.SmallTypes.ownedTupleIsFree
  rcases hm with rfl | ⟨T, rfl⟩
  · exact wpAny_bind (wpAny_field hz rfl (x := .none) rfl (wpAny_pure hT))
  · refine wpAny_bind (wpAny_field hz rfl (x := rawInt T) rfl ?_)
    show wpAny _ _ (loadIfAlive ((T : Int).toNat) >>= _) _ _ _
    rw [Int.toNat_natCast]
    refine wpAny_bind (wp_alive ?_)
    cases ho : s.heap.get? T with
    | none => exact wpAny_pure hT
    | some o =>
      simp only [Option.isNone_some, Bool.false_eq_true, if_false]
      refine wpAny_bind (wpAny_field hz rfl (x := .bool f) rfl ?_)
      cases f with
      | true =>
        rw [if_neg (show ¬ ((Value.bool true != Value.bool true) = true) from Bool.false_ne_true)]
        exact wpAny_pure (hF s.heap _ (.inr ⟨T, rfl⟩) hz (Heap.SameBut.refl _ _))
      | false =>
        rw [if_pos (show (Value.bool false != Value.bool true) = true from rfl)]
        exact wpAny_bind (wpAny_setField_rec hz (by simp) fun h₁ hz₁ hs₁ => wpAny_pure (hF h₁ _ (.inr ⟨T, rfl⟩) hz₁ hs₁))
variable {i1 i2 : Addr} {fp1 fp2 : List Addr} {n1 n2 i : Nat} {P1 P2 : Nat → Value → Prop} {St1 St2 : Nat → Heap → Prop}
/-- one pair more of a zip that is walked by an enumerate -/
theorem zn_item {Q : Value → Shared → Prop} (S : ZipSep2 z TI TO i1 i2 fp1 fp2) (D1 : Draws P w A i1 fp1 n1 P1 St1) (D2 : Draws P w A i2 fp2 n2 P2 St2) (hz : ZipSt s.heap z TI TO f m) (hm : Mark m)
    (hTI : IsTupOf2 s.heap TI (.ref i1) (.ref i2)) (hTO : ∃ a1 a2, IsTupOf2 s.heap TO a1 a2) (st1 : St1 i s.heap) (st2 : St2 i s.heap) (l1 : i < n1) (l2 : i < n2)
    (hQ : ∀ x y h' tk f' m', P1 i x → P2 i y → Mark m' → ZipSt h' z TI TO f' m' → (∃ a1 a2, IsTupOf2 h' TO a1 a2) → St1 (i + 1) h' → St2 (i + 1) h' → IsTupOf2 h' s.heap.objs.size x y → h'.objs.size = s.heap.objs.size + 1 →
      (∀ c o, c ≠ z → c ≠ TO → c ≠ i1 → c ≠ i2 → s.heap.get? c = some o → h'.get? c = some o) → Q (.ref s.heap.objs.size) { s with heap := h', toks := tk }) :
    wpAny (model P w) A (Builtin.«zip.__next__» ⟨[.ref z], []⟩) (fun fin s' => ∃ v, fin = .done (.ret v) ∧ Q v s') E s := by
  obtain ⟨u1, u2, hTO⟩ := hTO
  obtain ⟨hp, gs, dr, tk0, os⟩ := s
  show wpAny _ _ (field (.ref z) 2 >>= _) _ _ _
  refine wpAny_bind (wpAny_field hz rfl (x := .bool false) rfl ?_)
  show wpAny _ _ (field (.ref z) 3 >>= _) _ _ _
  refine wpAny_bind (wpAny_field hz rfl (x := .ref TI) rfl ?_)
  refine wpAny_bind (wpAny_seqItems hTI rfl ?_)
  show wpAny _ _ (Builtin.SmallTypes.ownedTupleIsFree (.ref z) >>= _) _ _ _
  refine wpAny_bind (zs_free hz hm ?_ fun q0 m1 hm1 hz1 hq0 => ?_)
  · simp only [if_true]
    refine wpAny_bind (wpAny_rule ?_)
    refine wpAny_bind (wpAny_field hz rfl (x := .ref TO) rfl ?_)
    refine wpAny_bind (wpAny_setField_rec hz (by simp) fun q0 hz0 hq0 => ?_)
    replace hz0 : ZipSt q0 z TI TO f .ellipsis := hz0
    replace hq0 : Heap.SameBut z hp q0 := hq0
    refine wpAny_bind ?_
    simp only [List.zipIdx_cons, List.zipIdx_nil, List.forIn_cons, List.forIn_nil]
    refine wpAny_bind (wpAny_bind (wpAny_onRaise ?_))
    show wpAny _ _ (Builtin.SmallTypes.nextOf (.ref i1) >>= _) _ _ ⟨q0, gs, dr, tk0, os⟩
    refine wpAny_bind (D1.item i _ _ _ l1 (D1.over st1 hq0 S.zf1) fun x1 q1 tk1 hx1 sn1 hq1 => wpAny_pure ?_)
    replace hq1 : Heap.SameBut i1 q0 q1 := hq1
    have hU1 : IsTupOf2 q1 TO u1 u2 := hq1.extBut _ _ S.Ti1 (hq0.extBut _ _ S.TOz hTO)
    refine wpAny_bind (wpAny_seqItems (s := ⟨q1, gs, dr, tk1, os⟩) hU1 rfl ?_)
    refine wpAny_bind (updateSeq_IsTupOf2 (s := ⟨q1, gs, dr, tk1, os⟩) hU1 fun r1 hT1 hr1 => ?_)
    replace hT1 : IsTupOf2 r1 TO x1 u2 := hT1
    replace hr1 : Heap.SameBut TO q1 r1 := hr1
    refine wpAny_bind (wpAny_letGo (wpAny_pure ?_))
    refine wpAny_bind (wpAny_bind (wpAny_onRaise ?_))
    show wpAny _ _ (Builtin.SmallTypes.nextOf (.ref i2) >>= _) _ _ ⟨r1, gs, dr, tk1, os⟩
    refine wpAny_bind (D2.item i _ _ _ l2 (D2.over (D2.over (D2.over st2 hq0 S.zf2) hq1 S.sep1_2) hr1 S.Tf2) fun x2 q2 tk2 hx2 sn2 hq2 => wpAny_pure ?_)
    replace hq2 : Heap.SameBut i2 r1 q2 := hq2
    have hU2 : IsTupOf2 q2 TO x1 u2 := hq2.extBut _ _ S.Ti2 hT1
    refine wpAny_bind (wpAny_seqItems (s := ⟨q2, gs, dr, tk2, os⟩) hU2 rfl ?_)
    refine wpAny_bind (updateSeq_IsTupOf2 (s := ⟨q2, gs, dr, tk2, os⟩) hU2 fun r2 hT2 hr2 => ?_)
    replace hT2 : IsTupOf2 r2 TO x1 x2 := hT2
    replace hr2 : Heap.SameBut TO q2 r2 := hr2
    refine wpAny_bind (wpAny_letGo (wpAny_pure (wpAny_pure ?_)))
    refine wpAny_bind (wpAny_seqItems (s := ⟨r2, gs, dr, tk2, os⟩) hT2 rfl ?_)
    refine wpAny_bind (wpAny_newTuple ?_)
    have hsz : r2.objs.size = hp.objs.size := by rw [hr2.1, hq2.1, hr1.1, hq1.1, hq0.1]
    have hzz : ZipSt r2 z TI TO f .ellipsis := (hr2.extBut _ _ S.TOz.symm (hq2.extBut _ _ S.zi2 (hr1.extBut _ _ S.TOz.symm (hq1.extBut _ _ S.zi1 hz0))))
    have hkk : ∀ c o, c ≠ z → c ≠ TO → c ≠ i1 → c ≠ i2 → hp.get? c = some o → r2.get? c = some o := fun c o cz cT c1 c2 e =>
      (hr2.extBut _ _ cT (hq2.extBut _ _ c2 (hr1.extBut _ _ cT (hq1.extBut _ _ c1 (hq0.extBut _ _ cz e)))))
    have hj1 : St1 (i + 1) r2 := (D1.over (D1.over (D1.over sn1 hr1 S.Tf1) hq2 S.sep2_1) hr2 S.Tf1)
    have hj2 : St2 (i + 1) r2 := (D2.over sn2 hr2 S.Tf2)
    have hzlt : z < r2.objs.size := Heap.lt_size hzz
    show wpAny _ _ (Builtin.SmallTypes.ownedTupleHandOut (.ref z) (.ref r2.objs.size) >>= _) _ _ ⟨r2.push { cls := .type "tuple", data := .seq #[x1, x2] }, gs, dr, tk2, os⟩
    refine wpAny_bind ?_
    unfold Builtin.SmallTypes.ownedTupleHandOut
    have hz6 : ZipSt (r2.push { cls := .type "tuple", data := .seq #[x1, x2] }) z TI TO f .ellipsis := Heap.get?_push_of_some _ hzz
    refine wpAny_bind (wpAny_setField_rec hz6 (by simp) fun h7 hz7 hs7 => ?_)
    replace hz7 : ZipSt h7 z TI TO f (rawInt r2.objs.size) := hz7
    refine wpAny_setField_rec hz7 (by simp) fun h8 hz8 hs8 => ?_
    replace hz8 : ZipSt h8 z TI TO false (rawInt r2.objs.size) := hz8
    replace hs7 : Heap.SameBut z (r2.push { cls := .type "tuple", data := .seq #[x1, x2] }) h7 := hs7
    replace hs8 : Heap.SameBut z h7 h8 := hs8
    have up : ∀ c o, c ≠ z → r2.get? c = some o → h8.get? c = some o := fun c o c1 e => hs8.extBut _ _ c1 (hs7.extBut _ _ c1 (Heap.get?_push_of_some _ e))
    have hT8 : IsTupOf2 h8 r2.objs.size x1 x2 := hs8.extBut _ _ (Nat.ne_of_gt hzlt) (hs7.extBut _ _ (Nat.ne_of_gt hzlt) (Heap.get?_push_size _ rfl))
    have hsz8 : h8.objs.size = r2.objs.size + 1 := by rw [hs8.1, hs7.1, Heap.size_push]
    rw [hsz] at hz8 hT8 hsz8
    refine wpAny_pure ⟨_, rfl, ?_⟩
    show Q (.ref r2.objs.size) ⟨h8, gs, dr, tk2, os⟩
    rw [hsz]
    exact hQ x1 x2 h8 tk2 _ _ hx1 hx2 (.inr ⟨_, rfl⟩) hz8 ⟨_, _, up _ _ S.TOz hT2⟩ (D1.frame _ _ _ hj1 fun b hb o e => up b o (fun q => S.zf1 (q ▸ hb)) e) (D2.frame _ _ _ hj2 fun b hb o e => up b o (fun q => S.zf2 (q ▸ hb)) e) hT8 hsz8 fun c o cz cT c1 c2 e => up c o cz (hkk c o cz cT c1 c2 e)
  · replace hq0 : Heap.SameBut z hp q0 := hq0
    simp only [Bool.false_eq_true, if_false]
    refine wpAny_bind ?_
    rw [← Array.forIn_toList]
    simp only [List.forIn_cons, List.forIn_nil]
    refine wpAny_bind (wpAny_bind (wpAny_holding ?_))
    show wpAny _ _ (Builtin.SmallTypes.nextOf (.ref i1) >>= _) _ _ ⟨q0, gs, dr, tk0, os⟩
    refine wpAny_bind (D1.item i _ _ _ l1 (D1.over st1 hq0 S.zf1) fun x1 q1 tk1 hx1 sn1 hq1 => wpAny_pure ?_)
    replace hq1 : Heap.SameBut i1 q0 q1 := hq1
    refine wpAny_pure ?_
    refine wpAny_bind (wpAny_bind (wpAny_holding ?_))
    show wpAny _ _ (Builtin.SmallTypes.nextOf (.ref i2) >>= _) _ _ ⟨q1, gs, dr, tk1, os⟩
    refine wpAny_bind (D2.item i _ _ _ l2 (D2.over (D2.over st2 hq0 S.zf2) hq1 S.sep1_2) fun x2 q2 tk2 hx2 sn2 hq2 => wpAny_pure ?_)
    replace hq2 : Heap.SameBut i2 q1 q2 := hq2
    refine wpAny_pure (wpAny_pure ?_)
    show wpAny _ _ (newTuple [x1, x2] >>= _) _ _ ⟨q2, gs, dr, tk2, os⟩
    refine wpAny_bind (wpAny_newTuple ?_)
    have hsz : q2.objs.size = hp.objs.size := by rw [hq2.1, hq1.1, hq0.1]
    have hzz : ZipSt q2 z TI TO true m1 := hq2.extBut _ _ S.zi2 (hq1.extBut _ _ S.zi1 hz1)
    have up : ∀ c o, q2.get? c = some o → (q2.push { cls := .type "tuple", data := .seq #[x1, x2] }).get? c = some o := fun c o e => Heap.get?_push_of_some _ e
    have hT8 : IsTupOf2 (q2.push { cls := .type "tuple", data := .seq #[x1, x2] }) q2.objs.size x1 x2 := Heap.get?_push_size _ rfl
    have hsz8 : (q2.push { cls := .type "tuple", data := .seq #[x1, x2] }).objs.size = q2.objs.size + 1 := Heap.size_push ..
    rw [hsz] at hT8 hsz8
    refine wpAny_pure ⟨_, rfl, ?_⟩
    show Q (.ref q2.objs.size) ⟨_, gs, dr, tk2, os⟩
    rw [hsz]
    exact hQ x1 x2 _ tk2 true m1 hx1 hx2 hm1 (up _ _ hzz) ⟨_, _, up _ _ (hq2.extBut _ _ S.Ti2 (hq1.extBut _ _ S.Ti1 (hq0.extBut _ _ S.TOz hTO)))⟩ (D1.frame _ _ _ (D1.over sn1 hq2 S.sep2_1) fun b hb o e => up b o e) (D2.frame _ _ _ sn2 fun b hb o e => up b o e) hT8 hsz8
      fun c o cz cT c1 c2 e => up c o (hq2.extBut _ _ c2 (hq1.extBut _ _ c1 (hq0.extBut _ _ cz e)))
theorem zn_end {Q : Fin → Shared → Prop} (S : ZipSep2 z TI TO i1 i2 fp1 fp2) (D1 : Draws P w A i1 fp1 n1 P1 St1) (D2 : Draws P w A i2 fp2 n2 P2 St2) (hz : ZipSt s.heap z TI TO f m) (hm : Mark m)
    (hTI : IsTupOf2 s.heap TI (.ref i1) (.ref i2)) (hTO : ∃ a1 a2, IsTupOf2 s.heap TO a1 a2) (st1 : St1 i s.heap) (st2 : St2 i s.heap) (le1 : i ≤ n1) (le2 : i ≤ n2) (hend : i = n1 ∨ i = n2)
    (hE : ∀ h' tk e, (∀ c o, c ≠ z → c ≠ TO → c ≠ i1 → c ≠ i2 → s.heap.get? c = some o → h'.get? c = some o) → (∃ o, h'.get? e = some o ∧ o.cls = .type "StopIteration") → E (.ref e) { s with heap := h', toks := tk }) :
    wpAny (model P w) A (Builtin.«zip.__next__» ⟨[.ref z], []⟩) Q E s := by
  obtain ⟨u1, u2, hTO⟩ := hTO
  obtain ⟨hp, gs, dr, tk0, os⟩ := s
  show wpAny _ _ (field (.ref z) 2 >>= _) _ _ _
  refine wpAny_bind (wpAny_field hz rfl (x := .bool false) rfl ?_)
  show wpAny _ _ (field (.ref z) 3 >>= _) _ _ _
  refine wpAny_bind (wpAny_field hz rfl (x := .ref TI) rfl ?_)
  refine wpAny_bind (wpAny_seqItems hTI rfl ?_)
  show wpAny _ _ (Builtin.SmallTypes.ownedTupleIsFree (.ref z) >>= _) _ _ _
  refine wpAny_bind (zs_free hz hm ?_ fun q0 m1 hm1 hz1 hq0 => ?_)
  · simp only [if_true]
    refine wpAny_bind (wpAny_rule ?_)
    refine wpAny_bind (wpAny_field hz rfl (x := .ref TO) rfl ?_)
    refine wpAny_bind (wpAny_setField_rec hz (by simp) fun q0 hz0 hq0 => ?_)
    replace hz0 : ZipSt q0 z TI TO f .ellipsis := hz0
    replace hq0 : Heap.SameBut z hp q0 := hq0
    refine wpAny_bind ?_
    simp only [List.zipIdx_cons, List.zipIdx_nil, List.forIn_cons, List.forIn_nil]
    refine wpAny_bind (wpAny_bind (wpAny_onRaise ?_))
    show wpAny _ _ (Builtin.SmallTypes.nextOf (.ref i1) >>= _) _ _ ⟨q0, gs, dr, tk0, os⟩
    by_cases l1 : i < n1
    · refine wpAny_bind (D1.item i _ _ _ l1 (D1.over st1 hq0 S.zf1) fun x1 q1 tk1 hx1 sn1 hq1 => wpAny_pure ?_)
      replace hq1 : Heap.SameBut i1 q0 q1 := hq1
      have hU1 : IsTupOf2 q1 TO u1 u2 := hq1.extBut _ _ S.Ti1 (hq0.extBut _ _ S.TOz hTO)
      refine wpAny_bind (wpAny_seqItems (s := ⟨q1, gs, dr, tk1, os⟩) hU1 rfl ?_)
      refine wpAny_bind (updateSeq_IsTupOf2 (s := ⟨q1, gs, dr, tk1, os⟩) hU1 fun r1 hT1 hr1 => ?_)
      replace hr1 : Heap.SameBut TO q1 r1 := hr1
      refine wpAny_bind (wpAny_letGo (wpAny_pure ?_))
      have hi2 : i = n2 := by omega
      refine wpAny_bind (wpAny_bind (wpAny_onRaise ?_))
      show wpAny _ _ (Builtin.SmallTypes.nextOf (.ref i2) >>= _) _ _ ⟨r1, gs, dr, tk1, os⟩
      refine wpAny_bind (D2.done ⟨r1, gs, dr, tk1, os⟩ _ _ (by rw [← hi2]; exact (D2.over (D2.over (D2.over st2 hq0 S.zf2) hq1 S.sep1_2) hr1 S.Tf2)) fun q e hq he => ?_)
      replace hq : Heap.ExtBut i2 r1 q := hq
      obtain ⟨oe, hoe, hce⟩ := he
      replace hoe : q.get? e = some oe := hoe
      have hzq : ZipSt q z TI TO f .ellipsis := hq _ _ S.zi2 (hr1.extBut _ _ S.TOz.symm (hq1.extBut _ _ S.zi1 hz0))
      have hez : e ≠ z := fun x => by
        subst x
        unfold ZipSt at hzq
        rw [hzq] at hoe
        cases hoe
        simp at hce
      refine wpAny_setField_rec (s := ⟨q, gs, dr, tk1, os⟩) hzq (by simp) fun q' _ hq' => ?_
      replace hq' : Heap.SameBut z q q' := hq'
      exact hE q' tk1 e (fun c o cz cT c1 c2 x => hq'.extBut _ _ cz (hq _ _ c2 (hr1.extBut _ _ cT (hq1.extBut _ _ c1 (hq0.extBut _ _ cz x))))) ⟨oe, hq'.extBut _ _ hez hoe, hce⟩
    · have hi1 : i = n1 := by omega
      refine wpAny_bind (D1.done ⟨q0, gs, dr, tk0, os⟩ _ _ (by rw [← hi1]; exact (D1.over st1 hq0 S.zf1)) fun q e hq he => ?_)
      replace hq : Heap.ExtBut i1 q0 q := hq
      obtain ⟨oe, hoe, hce⟩ := he
      replace hoe : q.get? e = some oe := hoe
      have hzq : ZipSt q z TI TO f .ellipsis := hq _ _ S.zi1 hz0
      have hez : e ≠ z := fun x => by
        subst x
        unfold ZipSt at hzq
        rw [hzq] at hoe
        cases hoe
        simp at hce
      refine wpAny_setField_rec (s := ⟨q, gs, dr, tk0, os⟩) hzq (by simp) fun q' _ hq' => ?_
      replace hq' : Heap.SameBut z q q' := hq'
      exact hE q' tk0 e (fun c o cz cT c1 c2 x => hq'.extBut _ _ cz (hq _ _ c1 (hq0.extBut _ _ cz x))) ⟨oe, hq'.extBut _ _ hez hoe, hce⟩
  · replace hq0 : Heap.SameBut z hp q0 := hq0
    simp only [Bool.false_eq_true, if_false]
    refine wpAny_bind ?_
    rw [← Array.forIn_toList]
    simp only [List.forIn_cons, List.forIn_nil]
    refine wpAny_bind (wpAny_bind (wpAny_holding ?_))
    show wpAny _ _ (Builtin.SmallTypes.nextOf (.ref i1) >>= _) _ _ ⟨q0, gs, dr, tk0, os⟩
    by_cases l1 : i < n1
    · refine wpAny_bind (D1.item i _ _ _ l1 (D1.over st1 hq0 S.zf1) fun x1 q1 tk1 hx1 sn1 hq1 => wpAny_pure ?_)
      replace hq1 : Heap.SameBut i1 q0 q1 := hq1
      have hi2 : i = n2 := by omega
      refine wpAny_pure ?_
      refine wpAny_bind (wpAny_bind (wpAny_holding ?_))
      show wpAny _ _ (Builtin.SmallTypes.nextOf (.ref i2) >>= _) _ _ ⟨q1, gs, dr, tk1, os⟩
      refine wpAny_bind (D2.done ⟨q1, gs, dr, tk1, os⟩ _ _ (by rw [← hi2]; exact (D2.over (D2.over st2 hq0 S.zf2) hq1 S.sep1_2)) fun q e hq he => ?_)
      replace hq : Heap.ExtBut i2 q1 q := hq
      exact hE q tk1 e (fun c o cz cT c1 c2 x => hq _ _ c2 (hq1.extBut _ _ c1 (hq0.extBut _ _ cz x))) he
    · have hi1 : i = n1 := by omega
      refine wpAny_bind (D1.done ⟨q0, gs, dr, tk0, os⟩ _ _ (by rw [← hi1]; exact (D1.over st1 hq0 S.zf1)) fun q e hq he => ?_)
      replace hq : Heap.ExtBut i1 q0 q := hq
      exact hE q tk0 e (fun c o cz cT c1 c2 x => hq _ _ c1 (hq0.extBut _ _ cz x)) he
theorem zn_of {Q : Value → Shared → Prop} {f' : Bool} {m' : Value} (hz : ZipSt s.heap z TI TO f' m') (h : wpAny (model P w) A.in1 (Builtin.«zip.__next__» ⟨[.ref z], []⟩) (fun fin s' => ∃ v, fin = .done (.ret v) ∧ Q v s') E s) :
    wpAny (model P w) A (Builtin.SmallTypes.nextOf (.ref z)) Q E s := by
  have hT : s.TypeIs (.ref z) "zip" := ⟨_, hz, rfl⟩
  unfold Builtin.SmallTypes.nextOf
  refine wpAny_bind (wpAny_callSpecial?_slot (name := Str.ofString "__next__") hT F.slot_zip_next (wpAny_call_entry F.slot_zip_next hT F.entry_zip_next (thn h fun fin s' ⟨v, e1, q⟩ => ⟨v, e1, wpAny_pure q⟩) (F.args_zip_next_1 _)))
variable {e : Addr} {old : Value}
theorem ez_item {Q : Option Value → Shared → Prop} (S : ZipSep2 z TI TO i1 i2 fp1 fp2) (D1 : Draws P w A.in1.in1 i1 fp1 n1 P1 St1) (D2 : Draws P w A.in1.in1 i2 fp2 n2 P2 St2) (he : IsEnum s.heap e z (i : Nat) old) (hz : ZipSt s.heap z TI TO f m) (hm : Mark m)
    (hTI : IsTupOf2 s.heap TI (.ref i1) (.ref i2)) (hTO : ∃ a1 a2, IsTupOf2 s.heap TO a1 a2) (st1 : St1 i s.heap) (st2 : St2 i s.heap) (l1 : i < n1) (l2 : i < n2) (ne : e ≠ z ∧ e ≠ TO ∧ e ≠ i1 ∧ e ≠ i2)
    (hQ : ∀ x y hA h' tk f' m', P1 i x → P2 i y → Mark m' → ZipSt hA z TI TO f' m' → (∃ a1 a2, IsTupOf2 hA TO a1 a2) → St1 (i + 1) hA → St2 (i + 1) hA → IsTupOf2 hA s.heap.objs.size x y → hA.objs.size = s.heap.objs.size + 1 →
      (∀ c o, c ≠ z → c ≠ TO → c ≠ i1 → c ≠ i2 → s.heap.get? c = some o → hA.get? c = some o) → IsEnumOut h' e z ((i : Nat) + 1 : Int) (.ref s.heap.objs.size) hA.objs.size →
      h'.get? hA.objs.size = some { cls := .type "tuple", data := .seq #[.int (i : Nat) tk, .ref s.heap.objs.size] } → (∀ b o, b ≠ e → hA.get? b = some o → h'.get? b = some o) → Q (some (.ref hA.objs.size)) { s with heap := h', toks := tk + 1 }) :
    wpAny (model P w) A (pyNext (.ref e)) Q E s := by
  obtain ⟨ez, eT, e1, e2⟩ := ne
  obtain ⟨hp, gs, dr, tk0, os⟩ := s
  have hT : (⟨hp, gs, dr, tk0, os⟩ : Shared).TypeIs (.ref e) "enumerate" := ⟨_, he, rfl⟩
  unfold pyNext
  refine wpAny_bind (wpAny_attempt (wpAny_callSpecial?_slot (name := Str.ofString "__next__") hT F.slot_enumerate_next (wpAny_call_entry F.slot_enumerate_next hT F.entry_enumerate_next ?_ (F.args_enumerate_next_1 _))))
  show wpAny _ _ (field (.ref e) 2 >>= _) _ _ _
  refine wpAny_bind (wpAny_field he rfl (x := .ref z) rfl ?_)
  refine wpAny_bind (zn_of hz (zn_item S D1 D2 hz hm hTI hTO st1 st2 l1 l2 fun x y q1 tk f' m' hx hy hm' hz' hTO' s1 s2 hpr hsz1 hk1 => ?_))
  have he1 : IsEnum q1 e z (i : Nat) old := hk1 e _ ez eT e1 e2 he
  show wpAny _ _ (field (.ref e) 3 >>= _) _ _ ⟨q1, gs, dr, tk, os⟩
  refine wpAny_bind (wpAny_field he1 rfl (x := rawInt (i : Nat)) rfl ?_)
  show wpAny _ _ (field (.ref e) 4 >>= _) _ _ ⟨q1, gs, dr, tk, os⟩
  refine wpAny_bind (wpAny_field he1 rfl (x := .none) rfl ?_)
  show wpAny _ _ (mkInt (i : Nat) >>= _) _ _ ⟨q1, gs, dr, tk, os⟩
  refine wpAny_bind (wpAny_mkInt ?_)
  show wpAny _ _ (setField (.ref e) 3 (rawInt (((i : Nat) : Int) + 1)) >>= _) _ _ ⟨q1, gs, dr, tk + 1, os⟩
  refine wpAny_bind (wpAny_setField_rec he1 (by simp) fun q2 he2 hs2 => ?_)
  replace hs2 : Heap.SameBut e q1 q2 := hs2
  replace he2 : IsEnum q2 e z ((i : Nat) + 1 : Int) old := he2
  show wpAny _ _ (setField (.ref e) 4 .none >>= _) _ _ ⟨q2, gs, dr, tk + 1, os⟩
  refine wpAny_bind (wpAny_setField_rec he2 (by simp) fun q3 he3 hs3 => ?_)
  replace hs3 : Heap.SameBut e q2 q3 := hs3
  replace he3 : IsEnum q3 e z ((i : Nat) + 1 : Int) old := he3
  show wpAny _ _ (newTuple [.int (i : Nat) tk, .ref hp.objs.size] >>= _) _ _ ⟨q3, gs, dr, tk + 1, os⟩
  refine wpAny_bind (wpAny_newTuple ?_)
  generalize ho : ({ cls := .type "tuple", data := .seq #[.int (i : Nat) tk, .ref hp.objs.size] } : Obj) = ot
  have he4 : IsEnum (q3.push ot) e z ((i : Nat) + 1 : Int) old := Heap.get?_push_of_some _ he3
  have hsz3 : q3.objs.size = q1.objs.size := by rw [hs3.1, hs2.1]
  have hel : e < q1.objs.size := Heap.lt_size he1
  have fr : ot.isFreed = false := by rw [← ho]; rfl
  have ht4 : (q3.push ot).get? q1.objs.size = some ot := by rw [← hsz3]; exact Heap.get?_push_size _ fr
  have hk4 : ∀ b o, b ≠ e → q1.get? b = some o → (q3.push ot).get? b = some o := fun b o hbe hb => Heap.get?_push_of_some _ (hs3.extBut b o hbe (hs2.extBut b o hbe hb))
  show wpAny _ _ (Builtin.SmallTypes.ownedTupleIsFree (.ref e) >>= _) _ _ ⟨q3.push ot, gs, dr, tk + 1, os⟩
  rw [hsz3]
  generalize q3.push ot = q4 at he4 ht4 hk4
  refine wpAny_bind ?_
  unfold Builtin.SmallTypes.ownedTupleIsFree
  refine wpAny_bind (wpAny_field he4 rfl (x := .none) rfl (wpAny_pure ?_))
  simp only [if_true]
  refine wpAny_bind (wpAny_rule ?_)
  refine wpAny_bind (wpAny_field he4 rfl (x := old) rfl ?_)
  refine wpAny_bind (wpAny_setField_rec he4 (by simp) fun q5 he5 hs5 => ?_)
  replace hs5 : Heap.SameBut e q4 q5 := hs5
  replace he5 : IsEnum q5 e z ((i : Nat) + 1 : Int) (.ref hp.objs.size) := he5
  show wpAny _ _ (Builtin.SmallTypes.ownedTupleHandOut (.ref e) (.ref q1.objs.size) >>= _) _ _ ⟨q5, gs, dr, tk + 1, os⟩
  refine wpAny_bind ?_
  unfold Builtin.SmallTypes.ownedTupleHandOut
  refine wpAny_bind (wpAny_setField_rec he5 (by simp) fun q6 he6 hs6 => ?_)
  replace hs6 : Heap.SameBut e q5 q6 := hs6
  replace he6 : IsEnumOut q6 e z ((i : Nat) + 1 : Int) (.ref hp.objs.size) q1.objs.size := he6
  refine wpAny_setField_rec he6 (by simp) fun q7 he7 hs7 => ?_
  replace hs7 : Heap.SameBut e q6 q7 := hs7
  replace he7 : IsEnumOut q7 e z ((i : Nat) + 1 : Int) (.ref hp.objs.size) q1.objs.size := he7
  have up : ∀ b o, b ≠ e → q4.get? b = some o → q7.get? b = some o := fun b o hbe x => hs7.extBut b o hbe (hs6.extBut b o hbe (hs5.extBut b o hbe x))
  refine wpAny_bind (wpAny_letGo (wpAny_pure ⟨_, rfl, wpAny_pure ?_⟩))
  exact hQ x y q1 q7 tk f' m' hx hy hm' hz' hTO' s1 s2 hpr hsz1 hk1 he7 (by rw [ho]; exact up _ _ (Nat.ne_of_gt hel) ht4) fun b o hbe hb => up b o hbe (hk4 b o hbe hb)
theorem ez_end {Q : Option Value → Shared → Prop} (S : ZipSep2 z TI TO i1 i2 fp1 fp2) (D1 : Draws P w A.in1.in1 i1 fp1 n1 P1 St1) (D2 : Draws P w A.in1.in1 i2 fp2 n2 P2 St2) (he : IsEnum s.heap e z (i : Nat) old) (hz : ZipSt s.heap z TI TO f m) (hm : Mark m)
    (hTI : IsTupOf2 s.heap TI (.ref i1) (.ref i2)) (hTO : ∃ a1 a2, IsTupOf2 s.heap TO a1 a2) (st1 : St1 i s.heap) (st2 : St2 i s.heap) (le1 : i ≤ n1) (le2 : i ≤ n2) (hend : i = n1 ∨ i = n2)
    (hQ : ∀ h' tk, (∀ c o, c ≠ z → c ≠ TO → c ≠ i1 → c ≠ i2 → s.heap.get? c = some o → h'.get? c = some o) → Q none { s with heap := h', toks := tk }) :
    wpAny (model P w) A (pyNext (.ref e)) Q E s := by
  have hT : s.TypeIs (.ref e) "enumerate" := ⟨_, he, rfl⟩
  unfold pyNext
  refine wpAny_bind (wpAny_attempt (wpAny_callSpecial?_slot (name := Str.ofString "__next__") hT F.slot_enumerate_next (wpAny_call_entry F.slot_enumerate_next hT F.entry_enumerate_next ?_ (F.args_enumerate_next_1 _))))
  show wpAny _ _ (field (.ref e) 2 >>= _) _ _ _
  refine wpAny_bind (wpAny_field he rfl (x := .ref z) rfl ?_)
  refine wpAny_bind (zn_of hz (zn_end S D1 D2 hz hm hTI hTO st1 st2 le1 le2 hend fun h' tk ex hk hx => ?_))
  obtain ⟨o, ho, hc⟩ := hx
  refine wpAny_bind (wpAny_isInstance (T := "StopIteration") (b := true) ⟨o, ho, hc⟩ isSubtype_stop ?_)
  exact wpAny_pure (hQ _ _ hk)
end
end Eng
namespace Eng
open PySem PySem.Spec PyProof.Rows L2
/-- enumerate of the tuple at a -/
def ItET (K : PySem.W.Frag) (a : Addr) : It :=
  ⟨fun i H => ∃ (xs : List V) (x : V), SqT K H a xs ∧ xs[i]? = some x, fun i H v H' => ∃ T x, v = .ref T ∧ H T = none ∧ H' = upd H T (.tup [.int (i : Nat), x]) ∧ ∀ xs, SqT K H a xs → xs[i]? = some x, fun i H => ∃ xs : List V, SqT K H a xs ∧ xs.length = i⟩
theorem turn_enumT {P : Program} {w : World} {K : PySem.W.Frag} {elts : List Expr} {kk : Nat} {tpos : Pos} (a e it : Addr) (hne : e ≠ it) (hae : a ≠ e) (hai : a ≠ it) :
    Turn P w K (.Tuple elts kk tpos) (ItET K a) [e, it] e (fun i h => (∃ old, IsEnum h e it ((i : Nat) : Int) old) ∧ h.IsTupleIter it a i) where
  mem := by simp
  obj := fun i h st b hb => by
    obtain ⟨⟨old, he⟩, ⟨o, ho, hc, hd⟩⟩ := st
    have e' : b = e ∨ b = it := by simpa using hb
    rcases e' with q | q
    · rw [q]; exact ⟨_, he, fun v q => nomatch q⟩
    · rw [q]; exact ⟨o, ho, fun v q => by rw [hd] at q; cases q⟩
  keep := fun i h h' st k => let ⟨⟨old, he⟩, hi⟩ := st; ⟨⟨old, k e (by simp) _ he⟩, hi.at fun o q => k it (by simp) o q⟩
  item := by
    intro X hP hw hK hc i pins s σ H E I hf st hg
    subst hP hw hK
    obtain ⟨⟨old, he⟩, hit⟩ := st
    obtain ⟨xs, x, hq, hx⟩ := hg
    obtain ⟨its, rv, p, hz⟩ := I.tuple hq
    obtain ⟨u, hu, ru⟩ := rv.get hx
    have hel : e < s.heap.objs.size := Heap.lt_size he
    have hil : it < s.heap.objs.size := by obtain ⟨_, q, _⟩ := hit; exact Heap.lt_size q
    have hlt : i < its.toArray.size := by
      have := (List.getElem?_eq_some_iff.mp hu).1
      simpa using this
    refine wpAny_pyNext_enum_itemD (Draws.tuple (A := X.A.in1) (I.ok.hd hc) it a hai its.toArray) he ⟨hit, p⟩ hlt hne (by simp [hne, Ne.symm hae]) fun y h' tk hy ho st' hT hsz hk => ?_
    have ey : y = u := by
      have : its.toArray[i]? = some u := by simpa using hu
      rw [this] at hy
      exact (Option.some.inj hy).symm
    subst ey
    refine ⟨_, rfl, wpAny_letOwnedTupleGo_enum (s := { s with heap := h', toks := tk + 1 }) ho fun h'' he' sb => ?_⟩
    have hT2 : h''.get? s.heap.objs.size = some { cls := .type "tuple", data := .seq #[.int i tk, y] } := (sb.2 _ (Nat.ne_of_gt hel)).trans hT
    have new : ObjOk X.prog X.w (upd H s.heap.objs.size (.tup [.int (i : Nat), x])) h'' s.heap.objs.size (.tup [.int (i : Nat), x]) :=
      ⟨by show 2 ≤ sizeLine; decide, [.int i tk, y], .cons ⟨_, rfl⟩ (.cons ru .nil), ⟨_, hT2, rfl, _, rfl⟩⟩
    have I1 : Inv X pins σ (upd H s.heap.objs.size (.tup [.int (i : Nat), x])) { s with heap := h'', toks := tk + 1 } :=
      I.turnedNew (ch := [e, it]) (fun b ob hb q => (sb.2 b (fun z => hb (by simp [z]))).trans (hk b ob (fun z => hb (by simp [z])) (fun z => hb (by simp [z])) q)) hf (Nat.le_refl _) new
    refine ⟨.ref s.heap.objs.size, _, I1, rfl, ⟨_, x, rfl, I.hok.fresh (Nat.le_refl _), rfl, fun ys hy => by rw [I.tuple_inj hy hq]; exact hx⟩, ⟨⟨y, ?_⟩, st'.1.at fun o q => (sb.2 it (Ne.symm hne)).trans q⟩, fun b hb => ?_⟩
    · have e1 : ((i + 1 : Nat) : Int) = (i : Int) + 1 := by omega
      rw [e1]; exact he'
    · have hb' : b < s.heap.objs.size := by
        have e' : b = e ∨ b = it := by simpa using hb
        rcases e' with z | z
        · rw [z]; exact hel
        · rw [z]; exact hil
      rw [upd_ne (Nat.ne_of_lt hb')]
      exact (hf b hb).1
  done := by
    intro X hP hw hK hc i pins s σ H E I hf st hg
    subst hP hw hK
    obtain ⟨⟨old, he⟩, hit⟩ := st
    obtain ⟨xs, hq, hx⟩ := hg
    obtain ⟨its, rv, p, hz⟩ := I.tuple hq
    obtain ⟨f0, f1, f2, f3, f4, f5⟩ := hf it (by simp)
    have hl := rv.length
    have en : i = its.toArray.size := by simp; omega
    exact wpAny_pyNext_enum_endD (Draws.tuple (A := X.A.in1) (I.ok.hd hc) it a hai its.toArray) he (by rw [← en]; exact ⟨hit, p⟩) fun h' eb => ⟨rfl, I.turned (t' := s.toks) (fun b o hb q => eb b o hb q) f0 f1 f3 f4 f5⟩
  self := fun A i s Q E st h => let ⟨⟨_, he⟩, _⟩ := st; wpAny_pyIter_enum he h
/-- enumerate(zip(..)) of the tuples at a and b -/
def ItEZ (K : PySem.W.Frag) (a b : Addr) : It :=
  ⟨fun i H => ∃ (xs ys : List V) (x y : V), SqT K H a xs ∧ SqT K H b ys ∧ xs[i]? = some x ∧ ys[i]? = some y,
    fun i H v H' => ∃ T U x y, v = .ref U ∧ H T = none ∧ H U = none ∧ T ≠ U ∧ H' = upd (upd H T (.tup [x, y])) U (.tup [.int (i : Nat), .ref T]) ∧ (∀ xs, SqT K H a xs → xs[i]? = some x) ∧ ∀ ys, SqT K H b ys → ys[i]? = some y,
    fun i H => ∃ xs ys : List V, SqT K H a xs ∧ SqT K H b ys ∧ i ≤ xs.length ∧ i ≤ ys.length ∧ (i = xs.length ∨ i = ys.length)⟩
theorem sep_of {z TI TO i1 i2 a b : Addr} (D : ZipApart z TI TO i1 i2 a b) : ZipSep2 z TI TO i1 i2 [i1, a] [i2, b] :=
  { TIz := D.TIz, TOz := D.TOz, TITO := D.TITO, TIi1 := D.TIi1, mem1 := by simp, zf1 := by simp [Ne.symm D.i1z, Ne.symm D.l1z], Tf1 := by simp [D.TOi1, Ne.symm D.l1TO], TIi2 := D.TIi2, mem2 := by simp, zf2 := by simp [Ne.symm D.i2z, Ne.symm D.l2z], Tf2 := by simp [D.TOi2, Ne.symm D.l2TO],
    sep1_2 := by simp [D.i12, Ne.symm D.l2i1], sep2_1 := by simp [Ne.symm D.i12, Ne.symm D.l1i2] }
theorem turn_enumZip {P : Program} {w : World} {K : PySem.W.Frag} {elts : List Expr} {kk : Nat} {tpos : Pos} {a b e z TI TO i1 i2 : Addr} (D : ZipApart z TI TO i1 i2 a b) (ne : e ≠ z ∧ e ≠ TO ∧ e ≠ i1 ∧ e ≠ i2) (eTI : e ≠ TI) (ea : e ≠ a) (eb : e ≠ b) :
    Turn P w K (.Tuple elts kk tpos) (ItEZ K a b) [e, z, TI, TO, i1, i2] e (fun i h => (∃ old, IsEnum h e z ((i : Nat) : Int) old) ∧ (∃ f m, Mark m ∧ ZipSt h z TI TO f m) ∧ IsTupOf2 h TI (.ref i1) (.ref i2) ∧ (∃ x y, IsTupOf2 h TO x y) ∧ h.IsTupleIter i1 a i ∧ h.IsTupleIter i2 b i) where
  mem := by simp
  obj := fun i h st c hc => by
    obtain ⟨⟨old, he⟩, ⟨f, m, _, hz⟩, hTI, ⟨x, y, hTO⟩, ⟨o1, e1, _, d1⟩, ⟨o2, e2, _, d2⟩⟩ := st
    have e' : c = e ∨ c = z ∨ c = TI ∨ c = TO ∨ c = i1 ∨ c = i2 := by simpa using hc
    rcases e' with q | q | q | q | q | q
    · rw [q]; exact ⟨_, he, fun v q => nomatch q⟩
    · rw [q]; exact ⟨_, hz, fun v q => nomatch q⟩
    · rw [q]; exact ⟨_, hTI, fun v q => nomatch q⟩
    · rw [q]; exact ⟨_, hTO, fun v q => nomatch q⟩
    · rw [q]; exact ⟨o1, e1, fun v q => by rw [d1] at q; cases q⟩
    · rw [q]; exact ⟨o2, e2, fun v q => by rw [d2] at q; cases q⟩
  keep := fun i h h' st k => by
    obtain ⟨⟨old, he⟩, ⟨f, m, hm, hz⟩, hTI, ⟨x, y, hTO⟩, h1, h2⟩ := st
    exact ⟨⟨old, k e (by simp) _ he⟩, ⟨f, m, hm, k z (by simp) _ hz⟩, k TI (by simp) _ hTI, ⟨x, y, k TO (by simp) _ hTO⟩, h1.at fun o q => k i1 (by simp) o q, h2.at fun o q => k i2 (by simp) o q⟩
  item := by
    intro X hP hw hK hc i pins s σ H E I hf st hg
    subst hP hw hK
    obtain ⟨⟨old, he⟩, ⟨f, m, hm, hz⟩, hTI, hTO, h1, h2⟩ := st
    obtain ⟨xs, ys, x, y, hqx, hqy, hx, hy⟩ := hg
    obtain ⟨its, rv, p, _⟩ := I.tuple hqx
    obtain ⟨its2, rv2, p2, _⟩ := I.tuple hqy
    obtain ⟨u, hu, ru⟩ := rv.get hx
    obtain ⟨u2, hu2, ru2⟩ := rv2.get hy
    have lt1 : i < its.toArray.size := by
      have := (List.getElem?_eq_some_iff.mp hu).1
      simpa using this
    have lt2 : i < its2.toArray.size := by
      have := (List.getElem?_eq_some_iff.mp hu2).1
      simpa using this
    have hel : e < s.heap.objs.size := Heap.lt_size he
    have nTO := hTO
    obtain ⟨o1, o2, hTO1⟩ := nTO
    refine ez_item (sep_of D) (Draws.tuple (A := X.A.in1.in1) (I.ok.hd hc) i1 a D.l1i1 its.toArray) (Draws.tuple (A := X.A.in1.in1) (I.ok.hd hc) i2 b D.l2i2 its2.toArray) he hz hm hTI hTO ⟨h1, p⟩ ⟨h2, p2⟩ lt1 lt2 ne
      fun v1 v2 hA h' tk f' m' hv1 hv2 hm' hz' hTO' s1 s2 hpr hszA hkA heo hT hk => ?_
    have ev1 : v1 = u := by
      have : its.toArray[i]? = some u := by simpa using hu
      rw [this] at hv1
      exact (Option.some.inj hv1).symm
    have ev2 : v2 = u2 := by
      have : its2.toArray[i]? = some u2 := by simpa using hu2
      rw [this] at hv2
      exact (Option.some.inj hv2).symm
    subst ev1 ev2
    refine ⟨_, rfl, wpAny_letOwnedTupleGo_enum (s := { s with heap := h', toks := tk + 1 }) heo fun h'' he' sb => ?_⟩
    replace sb : Heap.SameBut e h' h'' := sb
    have up : ∀ c o, c ≠ e → hA.get? c = some o → h''.get? c = some o := fun c o hce q => (sb.2 c hce).trans (hk c o hce q)
    have ltA : e < hA.objs.size := by rw [hszA]; exact Nat.lt_succ_of_lt hel
    have new1 : ObjOk X.prog X.w (upd H s.heap.objs.size (.tup [x, y])) hA s.heap.objs.size (.tup [x, y]) := ⟨by show 2 ≤ sizeLine; decide, [v1, v2], .cons ru (.cons ru2 .nil), ⟨_, hpr, rfl, _, rfl⟩⟩
    have I1 : Inv X pins σ (upd H s.heap.objs.size (.tup [x, y])) { s with heap := hA, toks := tk + 1 } :=
      I.turnedNew (ch := [e, z, TI, TO, i1, i2]) (fun c o hb q => hkA c o (fun q' => hb (by simp [q'])) (fun q' => hb (by simp [q'])) (fun q' => hb (by simp [q'])) (fun q' => hb (by simp [q'])) q) hf (Nat.le_refl _) new1
    have hf1 : ∀ c ∈ [e, z, TI, TO, i1, i2], c < s.heap.objs.size := fun c hcm => by
      have e' : c = e ∨ c = z ∨ c = TI ∨ c = TO ∨ c = i1 ∨ c = i2 := by simpa using hcm
      rcases e' with q | q | q | q | q | q
      · rw [q]; exact hel
      · rw [q]; exact Heap.lt_size hz
      · rw [q]; exact Heap.lt_size hTI
      · rw [q]; exact Heap.lt_size hTO1
      · rw [q]; obtain ⟨_, e1, _⟩ := h1; exact Heap.lt_size e1
      · rw [q]; obtain ⟨_, e2, _⟩ := h2; exact Heap.lt_size e2
    have hff : ∀ c ∈ [e], FpOk X pins (upd H s.heap.objs.size (.tup [x, y])) c := fun c hcm => by
      have q : c = e := by simpa using hcm
      obtain ⟨g1, g2⟩ := hf c (by rw [q]; simp)
      exact ⟨by rw [upd_ne (Nat.ne_of_lt (by rw [q]; exact hel))]; exact g1, g2⟩
    have hT2 : h''.get? hA.objs.size = some { cls := .type "tuple", data := .seq #[.int (i : Nat) tk, .ref s.heap.objs.size] } := (sb.2 _ (Nat.ne_of_gt ltA)).trans hT
    have new2 : ObjOk X.prog X.w (upd (upd H s.heap.objs.size (.tup [x, y])) hA.objs.size (.tup [.int (i : Nat), .ref s.heap.objs.size])) h'' hA.objs.size (.tup [.int (i : Nat), .ref s.heap.objs.size]) :=
      ⟨by show 2 ≤ sizeLine; decide, [.int (i : Nat) tk, .ref s.heap.objs.size], .cons ⟨_, rfl⟩ (.cons rfl .nil), ⟨_, hT2, rfl, _, rfl⟩⟩
    have I2 : Inv X pins σ (upd (upd H s.heap.objs.size (.tup [x, y])) hA.objs.size (.tup [.int (i : Nat), .ref s.heap.objs.size])) { s with heap := h'', toks := tk + 1 } :=
      I1.turnedNew (ch := [e]) (fun c o hb q => up c o (fun q' => hb (by simp [q'])) q) hff (Nat.le_refl _) new2
    have fr2 : H hA.objs.size = none := I.hok.fresh (by rw [hszA]; omega)
    have neq : s.heap.objs.size ≠ hA.objs.size := by rw [hszA]; exact Nat.ne_of_lt (Nat.lt_succ_self _)
    refine ⟨.ref hA.objs.size, _, I2, rfl, ⟨s.heap.objs.size, hA.objs.size, x, y, rfl, I.hok.fresh (Nat.le_refl _), fr2, neq, rfl, fun l hl => by rw [I.tuple_inj hl hqx]; exact hx, fun l hl => by rw [I.tuple_inj hl hqy]; exact hy⟩,
      ⟨⟨.ref s.heap.objs.size, ?_⟩, ⟨f', m', hm', up _ _ (Ne.symm ne.1) hz'⟩, up _ _ (Ne.symm eTI) (hkA _ _ D.TIz D.TITO D.TIi1 D.TIi2 hTI), ?_, s1.1.at fun o q => up _ _ (Ne.symm ne.2.2.1) q, s2.1.at fun o q => up _ _ (Ne.symm ne.2.2.2) q⟩, fun c hcm => ?_⟩
    · have e1 : ((i + 1 : Nat) : Int) = (i : Int) + 1 := by omega
      rw [e1]; exact he'
    · obtain ⟨t1, t2, q⟩ := hTO'
      exact ⟨t1, t2, up _ _ (Ne.symm ne.2.1) q⟩
    · have := hf1 c hcm
      rw [upd_ne (Nat.ne_of_lt (by rw [hszA]; exact Nat.lt_succ_of_lt this)), upd_ne (Nat.ne_of_lt this)]
      exact (hf c hcm).1
  done := by
    intro X hP hw hK hc i pins s σ H E I hf st hg
    subst hP hw hK
    obtain ⟨⟨old, he⟩, ⟨f, m, hm, hz⟩, hTI, hTO, h1, h2⟩ := st
    obtain ⟨xs, ys, hqx, hqy, le1, le2, hend⟩ := hg
    obtain ⟨its, rv, p, _⟩ := I.tuple hqx
    obtain ⟨its2, rv2, p2, _⟩ := I.tuple hqy
    have l1 := rv.length
    have l2 := rv2.length
    refine ez_end (sep_of D) (Draws.tuple (A := X.A.in1.in1) (I.ok.hd hc) i1 a D.l1i1 its.toArray) (Draws.tuple (A := X.A.in1.in1) (I.ok.hd hc) i2 b D.l2i2 its2.toArray) he hz hm hTI hTO ⟨h1, p⟩ ⟨h2, p2⟩ (by simp; omega) (by simp; omega) (by simp; omega)
      fun h' tk hk => ⟨rfl, I.turnedL (ch := [e, z, TI, TO, i1, i2]) (fun c o hb q => hk c o (fun q' => hb (by simp [q'])) (fun q' => hb (by simp [q'])) (fun q' => hb (by simp [q'])) (fun q' => hb (by simp [q'])) q) hf⟩
  self := fun A i s Q E st h => let ⟨⟨_, he⟩, _⟩ := st; wpAny_pyIter_enum he h
end Eng
namespace Eng
open PySem PySem.Spec PyProof.Rows L2
def iEnumA (K : PySem.W.Frag) (ta : TA) : TI := fun σ H R => ta σ H fun vs H1 => ∃ a xs, vs = [.ref a] ∧ ((SqL K H1 a xs ∧ R (Ite K a) H1) ∨ (SqT K H1 a xs ∧ R (ItET K a) H1))
theorem pi_enumA {X : Cx} {e : Expr} {ta : TA} {p pos tpos : Pos} {elts : List Expr} {kk : Nat} (hg : Gl X "enumerate") (hm : X.mg "enumerate" = none) (ha : PA X [e] ta) (hs : starEach [e] X.env = [(false, eval e X.env)] := by rfl) :
    PI X (.Tuple elts kk tpos) (.Call (.Name "enumerate" p) [e] [] pos) (iEnumA X.K ta) := by
  refine ⟨fun pins s σ H R I h => ?_⟩
  refine Call_ (ld_blt I hg hm boot_enumerate (PyProof.Rows.callWith_type1 (thn (ha.run pos pins s σ H _ I h) fun us s1 ⟨vs, H1, I1, r1, q1⟩ => ?_) hs rfl))
  obtain ⟨a, xs, ex, q⟩ := q1
  subst ex
  cases r1 with
  | cons r rr =>
    cases rr
    cases r
    have fp2 : ∀ b, b ∈ [s1.heap.objs.size + 1, s1.heap.objs.size] → FpOk X pins H1 b := fun b hb => by
      have e' : b = s1.heap.objs.size + 1 ∨ b = s1.heap.objs.size := by simpa using hb
      have hle : s1.heap.objs.size ≤ b := by
        rcases e' with z | z
        · rw [z]; exact Nat.le_add_right _ _
        · rw [z]; exact Nat.le_refl _
      exact I1.fpOk hle (I1.hok.fresh hle)
    rcases q with ⟨hq, q⟩ | ⟨hq, q⟩
    · obtain ⟨its, rv, p', hz⟩ := I1.list hq
      refine call_enumerate_list p'.isList fun h' he hit hsz hk => wpAny_pyIter_enum he ?_
      have I2 : Inv X pins σ H1 { s1 with heap := h' } := I1.kept (t' := s1.toks) hk
      exact ⟨s1.heap.objs.size + 1, [s1.heap.objs.size + 1, s1.heap.objs.size], _, _, H1, rfl, I2, turn_enum a (s1.heap.objs.size + 1) s1.heap.objs.size, ⟨⟨.none, he⟩, hit, Nat.succ_ne_self _⟩, fp2, q⟩
    · obtain ⟨its, rv, p', hz⟩ := I1.tuple hq
      have hal : a < s1.heap.objs.size := by obtain ⟨o, ho, _⟩ := id p'; exact Heap.lt_size ho
      have hsz1 : (s1.heap.push { cls := .type "tuple_iterator", data := .fields #[.ref a, .int 0 0] }).objs.size = s1.heap.objs.size + 1 := Heap.size_push ..
      refine call_enumO (opens_tup a its.toArray) (show s1.heap.IsTuple a its.toArray from p') fun h' he hsz hk => ?_
      rw [hsz1] at he ⊢
      refine wpAny_pyIter_enum he ?_
      have I2 : Inv X pins σ H1 { s1 with heap := h' } := I1.kept (t' := s1.toks) fun b o e => hk b o (Heap.get?_push_of_some _ e)
      exact ⟨s1.heap.objs.size + 1, [s1.heap.objs.size + 1, s1.heap.objs.size], _, _, H1, rfl, I2, turn_enumT a (s1.heap.objs.size + 1) s1.heap.objs.size (Nat.succ_ne_self _) (Nat.ne_of_lt (Nat.lt_succ_of_lt hal)) (Nat.ne_of_lt hal),
        ⟨⟨.none, he⟩, ⟨_, hk _ _ (Heap.get?_push_size _ rfl), rfl, rfl⟩⟩, fp2, q⟩
def iEnumZip (K : PySem.W.Frag) (ta : TA) : TI := fun σ H R => ta σ H fun vs H1 => ∃ a b xs ys, vs = [.ref a, .ref b] ∧ SqT K H1 a xs ∧ SqT K H1 b ys ∧ R (ItEZ K a b) H1
theorem pi_enumZip {X : Cx} {e e2 : Expr} {ta : TA} {p p2 pos pos2 tpos : Pos} {elts : List Expr} {kk : Nat} (hg : Gl X "enumerate") (hm : X.mg "enumerate" = none) (hg2 : Gl X "zip") (hm2 : X.mg "zip" = none) (ha : PA X [e, e2] ta)
    (hs : starEach [e, e2] X.env = (false, eval e X.env) :: starEach [e2] X.env := by rfl) (hpl : (backTo pos2 (starEach [e2] X.env)).any (·.1) = false := by rfl) :
    PI X (.Tuple elts kk tpos) (.Call (.Name "enumerate" p) [.Call (.Name "zip" p2) [e, e2] [] pos2] [] pos) (iEnumZip X.K ta) := by
  refine ⟨fun pins s σ H R I h => ?_⟩
  refine Call_ (ld_blt I hg hm boot_enumerate ?_)
  refine PyProof.Rows.callWith_type1 (PyProof.Rows.args_cons ?_ rfl) rfl rfl
  refine Call_ (ld_blt I hg2 hm2 PyProof.Rows.boot_zip (PyProof.Rows.callWith_type1 (thn (ha.run pos2 pins s σ H _ I h) fun us s1 ⟨vs, H1, I1, r1, q1⟩ => ?_) hs hpl))
  obtain ⟨a, b, xs, ys, ex, hqx, hqy, q⟩ := q1
  subst ex
  cases r1 with
  | cons r rr =>
    cases rr with
    | cons r' rr =>
      cases rr
      cases r
      cases r'
      obtain ⟨its, rv, p1, _⟩ := I1.tuple hqx
      obtain ⟨its2, rv2, p2', _⟩ := I1.tuple hqy
      obtain ⟨o1, ho1, _⟩ := id p1
      obtain ⟨o2, ho2, _⟩ := id p2'
      have la : a < s1.heap.objs.size := Heap.lt_size ho1
      have lb : b < s1.heap.objs.size := Heap.lt_size ho2
      refine RZ.call_zipT (show s1.heap.IsTuple a its.toArray from p1) (show s1.heap.IsTuple b its2.toArray from p2') fun h1 hz hTI hTO t1 t2 hsz hk => PyProof.Rows.args_nil ?_
      refine call_enumO (s := { s1 with heap := h1 }) (opens_zip (s1.heap.objs.size + 4) (s1.heap.objs.size + 2) (s1.heap.objs.size + 3)) hz fun h' he hsz2 hk2 => ?_
      replace he : IsEnum h' h1.objs.size (s1.heap.objs.size + 4) 0 .none := he
      rw [hsz] at he
      show wpAny _ _ (pyIter (.ref h1.objs.size)) _ _ _
      rw [hsz]
      refine wpAny_pyIter_enum he ?_
      have I2 : Inv X pins σ H1 { s1 with heap := h' } := I1.kept (t' := s1.toks) fun b o e => hk2 b o (hk b o e)
      refine ⟨s1.heap.objs.size + 5, [s1.heap.objs.size + 5, s1.heap.objs.size + 4, s1.heap.objs.size + 2, s1.heap.objs.size + 3, s1.heap.objs.size, s1.heap.objs.size + 1], _, _, H1, rfl, I2,
        turn_enumZip (PySem.W.ktu_apart s1.heap.objs.size a b la lb) ?_ ?_ ?_ ?_, ⟨⟨.none, he⟩, ⟨false, .none, .inl rfl, hk2 _ _ hz⟩, hk2 _ _ hTI, ⟨_, _, hk2 _ _ hTO⟩, t1.at fun o e => hk2 _ _ e, t2.at fun o e => hk2 _ _ e⟩, fun c hcm => ?_, q⟩
      · exact ⟨Nat.ne_of_gt (Nat.lt_succ_self _), Nat.ne_of_gt (Nat.lt_succ_of_lt (Nat.lt_succ_self _)), Nat.ne_of_gt (Nat.lt_add_of_pos_right (by decide)), Nat.ne_of_gt (Nat.add_lt_add_left (by decide) _)⟩
      · exact Nat.ne_of_gt (Nat.add_lt_add_left (by decide) _)
      · exact Nat.ne_of_gt (Nat.lt_add_right _ la)
      · exact Nat.ne_of_gt (Nat.lt_add_right _ lb)
      · have e' : c = s1.heap.objs.size + 5 ∨ c = s1.heap.objs.size + 4 ∨ c = s1.heap.objs.size + 2 ∨ c = s1.heap.objs.size + 3 ∨ c = s1.heap.objs.size ∨ c = s1.heap.objs.size + 1 := by simpa using hcm
        have hle : s1.heap.objs.size ≤ c := by
          rcases e' with z | z | z | z | z | z
          · rw [z]; exact Nat.le_add_right _ _
          · rw [z]; exact Nat.le_add_right _ _
          · rw [z]; exact Nat.le_add_right _ _
          · rw [z]; exact Nat.le_add_right _ _
          · rw [z]; exact Nat.le_refl _
          · rw [z]; exact Nat.le_add_right _ _
        exact I1.fpOk hle (I1.hok.fresh hle)
/-! ### the rules -/
def enumW (xs : List W) : List W := xs.mapIdx fun i x => .tup [.int (i : Nat), x]
def zipW (xs ys : List W) : List W := List.zipWith (fun x y => W.tup [x, y]) xs ys
theorem enumW_get {xs : List W} {i : Nat} {w : W} (h : (enumW xs)[i]? = some w) : ∃ x, xs[i]? = some x ∧ w = .tup [.int (i : Nat), x] := by
  rw [enumW, List.getElem?_mapIdx] at h
  cases e : xs[i]? with
  | none => rw [e] at h; cases h
  | some x =>
    rw [e] at h
    cases h
    exact ⟨x, rfl, rfl⟩
theorem zipW_get {xs ys : List W} {i : Nat} {w : W} (h : (zipW xs ys)[i]? = some w) : ∃ x y, xs[i]? = some x ∧ ys[i]? = some y ∧ w = .tup [x, y] := by
  rw [zipW, List.getElem?_zipWith] at h
  cases e : xs[i]? with
  | none => rw [e] at h; cases h
  | some x =>
    cases e2 : ys[i]? with
    | none => rw [e, e2] at h; cases h
    | some y =>
      rw [e, e2] at h
      cases h
      exact ⟨x, y, rfl, rfl, rfl⟩
theorem enumW_len (xs : List W) : (enumW xs).length = xs.length := by simp [enumW]
theorem zipW_len (xs ys : List W) : (zipW xs ys).length = min xs.length ys.length := by simp [zipW]
theorem pair_new {K : PySem.W.Frag} {ρ : Rho} {S : Store} {H : Hp} {T : Addr} {x y : V} {a b : W} (r : Rel K ρ S H) (hT : H T = none) (rx : Rep K ρ H x a) (ry : Rep K ρ H y b) : Evo ρ H ρ (upd H T (.tup [x, y])) ∧ Rel K ρ S (upd H T (.tup [x, y])) ∧ Rep K ρ (upd H T (.tup [x, y])) (.ref T) (.tup [a, b]) := by
  have ev : Evo ρ H ρ (upd H T (.tup [x, y])) := Evo.fresh r hT
  exact ⟨ev, r.fresh hT, .tup ⟨upd_same, r.notin hT⟩ (.cons (rx.evo ev) (.cons (ry.evo ev) .nil))⟩
theorem walkEL {K : PySem.W.Frag} {ρ : Rho} {H : Hp} {a : Addr} {vs : List V} {ws : List W} (h : LstAt ρ H a vs) (r : RepL K ρ H vs ws) : WalkRep K ρ H (.items (enumW ws)) (Ite K a) := fun ρ2 S2 H2 e rl => by
  have h2 : SqL K H2 a vs := (h.evo e).sq
  have r2 := r.ext e
  refine ⟨fun i w hi => ?_, fun i hi => ⟨vs, h2, ?_⟩⟩
  · obtain ⟨x, hx, rfl⟩ := enumW_get hi
    obtain ⟨v, e1, rv⟩ := r2.get hx
    refine ⟨⟨vs, v, h2, e1⟩, fun y H3 yl => ?_⟩
    obtain ⟨T, x', rfl, hT, rfl, q⟩ := yl
    have q := q vs h2
    rw [e1] at q
    cases q
    exact pair_new rl hT .int rv
  · have := of_decide_eq_true hi
    rw [enumW_len] at this
    rw [r2.length]
    exact Nat.le_of_eq this
theorem walkET {K : PySem.W.Frag} {ρ : Rho} {H : Hp} {a : Addr} {vs : List V} {ws : List W} (h : ∀ ρ2 H2, Ext ρ H ρ2 H2 → SqT K H2 a vs) (r : RepL K ρ H vs ws) : WalkRep K ρ H (.items (enumW ws)) (ItET K a) := fun ρ2 S2 H2 e rl => by
  have h2 : SqT K H2 a vs := h ρ2 H2 e
  have r2 := r.ext e
  refine ⟨fun i w hi => ?_, fun i hi => ⟨vs, h2, ?_⟩⟩
  · obtain ⟨x, hx, rfl⟩ := enumW_get hi
    obtain ⟨v, e1, rv⟩ := r2.get hx
    refine ⟨⟨vs, v, h2, e1⟩, fun y H3 yl => ?_⟩
    obtain ⟨T, x', rfl, hT, rfl, q⟩ := yl
    have q := q vs h2
    rw [e1] at q
    cases q
    exact pair_new rl hT .int rv
  · have := of_decide_eq_true hi
    rw [enumW_len] at this
    rw [r2.length]
    exact this
theorem walkZL {K : PySem.W.Frag} {ρ : Rho} {H : Hp} {a b : Addr} {vs us : List V} {ws xs : List W} (h : LstAt ρ H a vs) (h' : LstAt ρ H b us) (r : RepL K ρ H vs ws) (r' : RepL K ρ H us xs) : WalkRep K ρ H (.items (zipW ws xs)) (Itz K a b) := fun ρ2 S2 H2 e rl => by
  have h2 : SqL K H2 a vs := (h.evo e).sq
  have h3 : SqL K H2 b us := (h'.evo e).sq
  have r2 := r.ext e
  have r3 := r'.ext e
  refine ⟨fun i w hi => ?_, fun i hi => ⟨vs, us, h2, h3, ?_⟩⟩
  · obtain ⟨x, y, hx, hy, rfl⟩ := zipW_get hi
    obtain ⟨v, e1, rv⟩ := r2.get hx
    obtain ⟨u, e2, ru⟩ := r3.get hy
    refine ⟨⟨vs, us, v, u, h2, h3, e1, e2⟩, fun z H3 yl => ?_⟩
    obtain ⟨T, x', y', rfl, hT, rfl, q, q'⟩ := yl
    have q := q vs h2
    have q' := q' us h3
    rw [e1] at q
    rw [e2] at q'
    cases q
    cases q'
    exact pair_new rl hT rv ru
  · have := of_decide_eq_true hi
    rw [zipW_len] at this
    rw [r2.length, r3.length]
    omega
theorem walkZT {K : PySem.W.Frag} {ρ : Rho} {H : Hp} {a b : Addr} {vs us : List V} {ws xs : List W} (h : ∀ ρ2 H2, Ext ρ H ρ2 H2 → SqT K H2 a vs) (h' : ∀ ρ2 H2, Ext ρ H ρ2 H2 → SqT K H2 b us) (r : RepL K ρ H vs ws) (r' : RepL K ρ H us xs) : WalkRep K ρ H (.items (zipW ws xs)) (RZ.ItzT K a b) := fun ρ2 S2 H2 e rl => by
  have h2 : SqT K H2 a vs := h ρ2 H2 e
  have h3 : SqT K H2 b us := h' ρ2 H2 e
  have r2 := r.ext e
  have r3 := r'.ext e
  refine ⟨fun i w hi => ?_, fun i hi => ⟨vs, us, h2, h3, ?_⟩⟩
  · obtain ⟨x, y, hx, hy, rfl⟩ := zipW_get hi
    obtain ⟨v, e1, rv⟩ := r2.get hx
    obtain ⟨u, e2, ru⟩ := r3.get hy
    refine ⟨⟨vs, us, v, u, h2, h3, e1, e2⟩, fun z H3 yl => ?_⟩
    obtain ⟨T, x', y', rfl, hT, rfl, q, q'⟩ := yl
    have q := q vs h2
    have q' := q' us h3
    rw [e1] at q
    rw [e2] at q'
    cases q
    cases q'
    exact pair_new rl hT rv ru
  · have := of_decide_eq_true hi
    rw [zipW_len] at this
    rw [r2.length, r3.length]
    omega
theorem walkEZ {K : PySem.W.Frag} {ρ : Rho} {H : Hp} {a b : Addr} {vs us : List V} {ws xs : List W} (h : ∀ ρ2 H2, Ext ρ H ρ2 H2 → SqT K H2 a vs) (h' : ∀ ρ2 H2, Ext ρ H ρ2 H2 → SqT K H2 b us) (r : RepL K ρ H vs ws) (r' : RepL K ρ H us xs) : WalkRep K ρ H (.items (enumW (zipW ws xs))) (ItEZ K a b) := fun ρ2 S2 H2 e rl => by
  have h2 : SqT K H2 a vs := h ρ2 H2 e
  have h3 : SqT K H2 b us := h' ρ2 H2 e
  have r2 := r.ext e
  have r3 := r'.ext e
  refine ⟨fun i w hi => ?_, fun i hi => ⟨vs, us, h2, h3, ?_⟩⟩
  · obtain ⟨p, hp, rfl⟩ := enumW_get hi
    obtain ⟨x, y, hx, hy, rfl⟩ := zipW_get hp
    obtain ⟨v, e1, rv⟩ := r2.get hx
    obtain ⟨u, e2, ru⟩ := r3.get hy
    refine ⟨⟨vs, us, v, u, h2, h3, e1, e2⟩, fun z H3 yl => ?_⟩
    obtain ⟨T, U, x', y', rfl, hT, hU, hTU, rfl, q, q'⟩ := yl
    have q := q vs h2
    have q' := q' us h3
    rw [e1] at q
    rw [e2] at q'
    cases q
    cases q'
    obtain ⟨ev, rl2, rp⟩ := pair_new rl hT rv ru
    obtain ⟨ev2, rl3, rp2⟩ := pair_new rl2 (T := U) (by rw [upd_ne (Ne.symm hTU)]; exact hU) (.int (i := (i : Nat))) rp
    exact ⟨ev.trans ev2, rl3, rp2⟩
  · have := of_decide_eq_true hi
    rw [enumW_len, zipW_len] at this
    rw [r2.length, r3.length]
    omega
section
variable {X : Cx} {Wx : WX} {a b : Expr} {g : FA} {p p2 pos pos2 tpos : Pos} {elts : List Expr} {kk : Nat}
def mEnum (g : FA) : FI := fun τ S => (g τ S).bind fun ws S1 => match ws with
  | [.tup xs] => .ok (.items (enumW xs)) S1
  | [.ktup xs] => .ok (.items (enumW xs)) S1
  | [.lst xs] => .ok (.items (enumW xs)) S1
  | _ => .fail
def mZip (g : FA) : FI := fun τ S => (g τ S).bind fun ws S1 => match ws with
  | [.tup xs, .tup ys] => .ok (.items (zipW xs ys)) S1
  | [.lst xs, .lst ys] => .ok (.items (zipW xs ys)) S1
  | _ => .fail
def mEnumZip (g : FA) : FI := fun τ S => (g τ S).bind fun ws S1 => match ws with
  | [.tup xs, .tup ys] => .ok (.items (enumW (zipW xs ys))) S1
  | _ => .fail
theorem i_enum (hg : Gl X "enumerate") (hm : X.mg "enumerate" = none) (ha : AA X Wx [a] g) (hs : starEach [a] X.env = [(false, eval a X.env)] := by rfl) : AI X Wx (.Tuple elts kk tpos) (.Call (.Name "enumerate" p) [a] [] pos) (mEnum g) :=
  piM (pi_enumA hg hm ha hs) fun σ H Q ⟨ρ, S, τ, h1, h2, h3⟩ => by
    refine RdA.mk h1 h2 h3.split fun ws ρ1 S1 H1 vs e1 r1 s1 rvs q1 => ?_
    split at q1
    · obtain ⟨v, rfl, rv⟩ := repL1 rvs
      cases rv with
      | tup hl hr => exact ⟨_, _, rfl, .inr ⟨hl.sq, q1.ok_now r1 _ (walkET (fun _ _ e => (hl.evo e).sq) hr)⟩⟩
    · obtain ⟨v, rfl, rv⟩ := repL1 rvs
      cases rv with
      | ktup hl hr => exact ⟨_, _, rfl, .inr ⟨KT.sq hl, q1.ok_now r1 _ (walkET (fun _ _ e => KT.sq hl) hr)⟩⟩
    · obtain ⟨v, rfl, rv⟩ := repL1 rvs
      cases rv with
      | lst hl hr => exact ⟨_, _, rfl, .inl ⟨hl.sq, q1.ok_now r1 _ (walkEL hl hr)⟩⟩
    · exact q1.elim
theorem i_zip (hg : Gl X "zip") (hm : X.mg "zip" = none) (ha : AA X Wx [a, b] g) (hs : starEach [a, b] X.env = (false, eval a X.env) :: starEach [b] X.env := by rfl) (hpl : (backTo pos (starEach [b] X.env)).any (·.1) = false := by rfl) : AI X Wx (.Tuple elts kk tpos) (.Call (.Name "zip" p) [a, b] [] pos) (mZip g) :=
  piM (RZ.pi_zipA hg hm ha hs hpl) fun σ H Q ⟨ρ, S, τ, h1, h2, h3⟩ => by
    refine RdA.mk h1 h2 h3.split fun ws ρ1 S1 H1 vs e1 r1 s1 rvs q1 => ?_
    split at q1
    · obtain ⟨v, u, rfl, rv, ru⟩ := repL2 rvs
      cases rv with
      | tup hl hr =>
        cases ru with
        | tup hl' hr' => exact ⟨_, _, _, _, rfl, .inr ⟨hl.sq, hl'.sq, q1.ok_now r1 _ (walkZT (fun _ _ e => (hl.evo e).sq) (fun _ _ e => (hl'.evo e).sq) hr hr')⟩⟩
    · obtain ⟨v, u, rfl, rv, ru⟩ := repL2 rvs
      cases rv with
      | lst hl hr =>
        cases ru with
        | lst hl' hr' => exact ⟨_, _, _, _, rfl, .inl ⟨hl.sq, hl'.sq, q1.ok_now r1 _ (walkZL hl hl' hr hr')⟩⟩
    · exact q1.elim
theorem i_enumzip (hg : Gl X "enumerate") (hm : X.mg "enumerate" = none) (hg2 : Gl X "zip") (hm2 : X.mg "zip" = none) (ha : AA X Wx [a, b] g) (hs : starEach [a, b] X.env = (false, eval a X.env) :: starEach [b] X.env := by rfl) (hpl : (backTo pos2 (starEach [b] X.env)).any (·.1) = false := by rfl) :
    AI X Wx (.Tuple elts kk tpos) (.Call (.Name "enumerate" p) [.Call (.Name "zip" p2) [a, b] [] pos2] [] pos) (mEnumZip g) :=
  piM (pi_enumZip hg hm hg2 hm2 ha hs hpl) fun σ H Q ⟨ρ, S, τ, h1, h2, h3⟩ => by
    refine RdA.mk h1 h2 h3.split fun ws ρ1 S1 H1 vs e1 r1 s1 rvs q1 => ?_
    split at q1
    · obtain ⟨v, u, rfl, rv, ru⟩ := repL2 rvs
      cases rv with
      | tup hl hr =>
        cases ru with
        | tup hl' hr' => exact ⟨_, _, _, _, rfl, hl.sq, hl'.sq, q1.ok_now r1 _ (walkEZ (fun _ _ e => (hl.evo e).sq) (fun _ _ e => (hl'.evo e).sq) hr hr')⟩
    · exact q1.elim
end
end Eng
namespace Eng
open PySem PySem.Spec PyProof.Rows L2
/-! ### strict total orders, sorting -/
structure STO {α : Type} (lt : α → α → Bool) : Prop where
  asym : ∀ x y, lt x y = true → lt y x = false
  tr : ∀ x y z, lt y x = false → lt z y = false → lt z x = false
  eq : ∀ x y, lt x y = false → lt y x = false → x = y
section
variable {α β : Type} {lt : α → α → Bool}
theorem STO.irr (h : STO lt) (x : α) : lt x x = false := by
  cases e : lt x x with
  | false => rfl
  | true => rw [← e, h.asym x x e]
theorem STO.swo (h : STO lt) : SrtO.Swo lt := ⟨h.asym, h.tr⟩
def lexL (lt : α → α → Bool) : List α → List α → Bool
  | [], [] => false
  | [], _ :: _ => true
  | _ :: _, [] => false
  | a :: as, b :: bs => lt a b || (!lt b a && lexL lt as bs)
theorem STO.lex (h : STO lt) : STO (lexL lt) where
  asym := fun x => by
    induction x with
    | nil => intro y e; cases y <;> first | rfl | cases e
    | cons a as ih =>
      intro y e
      cases y with
      | nil => cases e
      | cons b bs =>
        simp only [lexL, Bool.or_eq_true, Bool.and_eq_true, Bool.not_eq_true'] at e
        simp only [lexL, Bool.or_eq_false_iff, Bool.and_eq_false_iff, Bool.not_eq_false']
        rcases e with e | ⟨e, e2⟩
        · exact ⟨h.asym _ _ e, .inl e⟩
        · exact ⟨e, .inr (ih bs e2)⟩
  tr := fun x => by
    induction x with
    | nil =>
      intro y z h1 h2
      cases z with
      | nil => rfl
      | cons c cs => rfl
    | cons a as ih =>
      intro y z h1 h2
      cases y with
      | nil => simp [lexL] at h1
      | cons b bs =>
        cases z with
        | nil => simp [lexL] at h2
        | cons c cs =>
          simp only [lexL, Bool.or_eq_false_iff, Bool.and_eq_false_iff, Bool.not_eq_false'] at h1 h2 ⊢
          refine ⟨h.tr _ _ _ h1.1 h2.1, ?_⟩
          cases e : lt a c with
          | true => exact .inl rfl
          | false =>
            -- a = b = c
            have e1 : lt a b = false := by
              cases q : lt a b with
              | false => rfl
              | true =>
                have : lt a c = true := by
                  cases q2 : lt a c with
                  | true => rfl
                  | false =>
                    have := h.tr b c a h2.1 q2
                    rw [q] at this
                    cases this
                rw [e] at this
                cases this
            have e2 : a = b := h.eq _ _ e1 h1.1
            subst e2
            have e3 : a = c := h.eq _ _ e h2.1
            subst e3
            rcases h1.2 with z1 | z1
            · rw [h.irr] at z1; cases z1
            · rcases h2.2 with z2 | z2
              · rw [h.irr] at z2; cases z2
              · exact .inr (ih bs cs z1 z2)
  eq := fun x => by
    induction x with
    | nil => intro y e1 e2; cases y with
      | nil => rfl
      | cons b bs => cases e1
    | cons a as ih =>
      intro y e1 e2
      cases y with
      | nil => cases e2
      | cons b bs =>
        simp only [lexL, Bool.or_eq_false_iff, Bool.and_eq_false_iff, Bool.not_eq_false'] at e1 e2
        have e3 : a = b := h.eq _ _ e1.1 e2.1
        subst e3
        rcases e1.2 with z1 | z1
        · rw [h.irr] at z1; cases z1
        · rcases e2.2 with z2 | z2
          · rw [h.irr] at z2; cases z2
          · rw [ih bs z1 z2]
theorem STO.of (h : STO lt) (f : β → α) (inj : ∀ x y, f x = f y → x = y) : STO fun x y => lt (f x) (f y) := ⟨fun x y => h.asym _ _, fun x y z => h.tr _ _ _, fun x y a b => inj _ _ (h.eq _ _ a b)⟩
def ltN (a b : Nat) : Bool := decide (a < b)
theorem sto_N : STO ltN := by
  refine ⟨fun x y => ?_, fun x y z => ?_, fun x y => ?_⟩ <;> simp only [ltN, decide_eq_true_eq, decide_eq_false_iff_not] <;> omega
def ltS (a b : Str) : Bool := lexL ltN a.cps.toList b.cps.toList
theorem sto_S : STO ltS := sto_N.lex.of (fun x : Str => x.cps.toList) fun x y e => by
  cases x; cases y
  simp only at e
  rw [Array.toList_inj.mp e]
theorem lexN_dec : ∀ a b : List Nat, lexL ltN a b = decide (a < b)
  | [], [] => rfl
  | [], b :: bs => by simp [lexL]
  | a :: as, [] => by simp [lexL]
  | a :: as, b :: bs => by
    rw [lexL, lexN_dec as bs]
    simp only [List.cons_lt_cons_iff, ltN]
    by_cases h1 : a < b
    · simp [h1]
    · by_cases h2 : b < a
      · have h3 : ¬ a = b := by omega
        simp [h1, h2, h3]
      · have h3 : a = b := by omega
        simp [h1, h2, h3]
theorem ltS_dec (a b : Str) : ltS a b = decide (a.cps.toList < b.cps.toList) := lexN_dec _ _
def srt (lt : α → α → Bool) (l : List α) : List α := l.mergeSort fun a b => !lt b a
theorem srt_perm (l : List α) : (srt lt l).Perm l := List.mergeSort_perm ..
theorem srt_srtd (h : STO lt) (l : List α) : (srt lt l).Pairwise fun x y => lt y x = false := by
  refine (List.pairwise_mergeSort (le := fun a b => !lt b a) ?_ ?_ l).imp ?_
  · intro a b c x y
    simp only [Bool.not_eq_true'] at x y ⊢
    exact h.tr _ _ _ x y
  · intro a b
    cases e : lt b a with
    | false => rfl
    | true => simp [h.asym _ _ e]
  · intro a b x
    simpa using x
theorem srt_uniq (h : STO lt) {l m : List α} (p : m.Perm l) (s : m.Pairwise fun x y => lt y x = false) : m = srt lt l :=
  List.Perm.eq_of_pairwise (le := fun x y => lt y x = false) (fun a b _ _ x y => h.eq _ _ y x) s (srt_srtd h l) (p.trans (srt_perm l).symm)
theorem srt_eq (h : STO lt) {l m : List α} (p : m.Perm l) : srt lt m = srt lt l := srt_uniq h ((srt_perm m).trans p) (srt_srtd h m)
end
/-! ### sorted: what comes behind the collecting -/
section
variable {P : Program} {w : World} {A : Around} {E : Value → Shared → Prop} {s : Shared}
theorem sort_tail {vs : List Value} {ltv : Value → Value → Bool} {Q : Value → Shared → Prop} (O : SrtO.Swo ltv) (hz : vs.length ≤ sizeLine)
    (hS : 2 ≤ vs.length → ∀ (h1 : Heap) (a : Addr), h1.get? a = some (seqObj "list" vs.toArray 0) → (∀ b o, s.heap.get? b = some o → b ≠ a ∧ h1.get? b = some o) → SrtO.SortableO P w A.in1 { s with heap := h1 } a vs ltv)
    (h : ∀ (h' : Heap) (out : List Value), SrtO.Srtd ltv out → SrtO.Stb ltv out vs → (∀ b o, s.heap.get? b = some o → h'.get? b = some o) → (∃ n, h'.get? s.heap.objs.size = some (seqObj "list" out.toArray n)) → Q (.ref s.heap.objs.size) { s with heap := h' }) :
    wpAny (model P w) A (newList vs >>= fun l => holding [l] (call (.builtin "list.sort") [l] []) >>= fun _ => ret l) (fun fin s' => ∃ v, fin = .done (.ret v) ∧ Q v s') E s := by
  refine wpAny_bind (wpAny_newList ?_ hz)
  have hoL : (s.heap.push (seqObj "list" vs.toArray 0)).get? s.heap.objs.size = some (seqObj "list" vs.toArray 0) := Heap.get?_push_size _ rfl
  have keep : ∀ b o, s.heap.get? b = some o → b ≠ s.heap.objs.size ∧ (s.heap.push (seqObj "list" vs.toArray 0)).get? b = some o := fun b o q => ⟨Nat.ne_of_lt (Heap.lt_size q), Heap.get?_push_of_some _ q⟩
  refine wpAny_bind (wpAny_holding (wpAny_call_entry slot_list_sort ⟨_, hoL, rfl⟩ entry_list_sort (SrtO.list_sort_ord (s := { s with heap := s.heap.push (seqObj "list" vs.toArray 0) }) O hoL hz (fun h2 => hS h2 _ _ hoL keep) fun out hs hb => ⟨_, rfl, ?_⟩) (args_list_sort _)))
  refine wpAny_pure ⟨_, rfl, h _ out hs hb (fun b o q => ?_) (sortedHeap_at hoL)⟩
  obtain ⟨k1, k2⟩ := keep b o q
  rw [sortedHeap_old k1 (Heap.lt_size k2)]
  exact k2
theorem sorted_of {v : Value} {Q : Value → Shared → Prop} (h : wpAny (model P w) A.in1 (collect v) (fun vs s1 => wpAny (model P w) A.in1 (newList vs >>= fun l => holding [l] (call (.builtin "list.sort") [l] []) >>= fun _ => ret l) (fun fin s' => ∃ v, fin = .done (.ret v) ∧ Q v s') E s1) E s) :
    wpAny (model P w) A (call (.builtin "sorted") [v]) Q E s := by
  refine Calls.call_function_entry kind_sorted plain_sorted entry_sorted (args_sorted1 _) ?_
  unfold Builtin.«sorted»
  refine wpAny_bind (m := checkCount "sorted" 1 1 _) (wpAny_pure ?_)
  exact wpAny_bind h
/-! texts -/
def keyS : Value → Str
  | .str x _ => x
  | _ => ""
theorem swo_S : SrtO.Swo fun v u => ltS (keyS v) (keyS u) := ⟨fun _ _ => sto_S.asym _ _, fun _ _ _ => sto_S.tr _ _ _⟩
theorem strs_sortable {a : Addr} {vs : List Value} {ss : List Str} (h2 : 2 ≤ vs.length) (hS : StrsAre vs ss) : SrtO.SortableO P w A s a vs fun v u => ltS (keyS v) (keyS u) := by
  intro h' keep
  refine ⟨oneType', fun Q E hq => ?_, fun p q hp hq => ?_⟩
  · obtain ⟨v1, v2, r, rfl⟩ : ∃ v1 v2 r, vs = v1 :: v2 :: r := by
      match vs, h2 with
      | v1 :: v2 :: r, _ => exact ⟨v1, v2, r, rfl⟩
    rw [keyKind_strs hS]
    exact wpAny_pure hq
  · have str : ∀ v ∈ vs, ∃ x t, v = .str x t := fun v hv => by
      clear h2 keep hp hq
      induction hS with
      | nil => cases hv
      | cons x t _ ih =>
        rcases List.mem_cons.mp hv with e | hv
        · exact ⟨_, _, e⟩
        · exact ih hv
    obtain ⟨x, t, ex⟩ := str _ hp
    obtain ⟨y, u, ey⟩ := str _ hq
    rw [keyLt'_oneType]
    show wpAny _ _ (oneLt' true p.1 q.1) (fun r s' => s' = _ ∧ r = ltS (keyS p.1) (keyS q.1)) _ _
    rw [ex, ey]
    refine oneLt_str ⟨rfl, ?_⟩
    exact (ltS_dec _ _).symm
/-! tuples of texts -/
theorem lex_same {x : Str} {xs ys : List Str} : lexL ltS (x :: xs) (x :: ys) = lexL ltS xs ys := by
  rw [lexL, sto_S.irr]
  rfl
theorem lex_diff {x y : Str} {xs ys : List Str} (h : x ≠ y) : lexL ltS (x :: xs) (y :: ys) = ltS x y := by
  rw [lexL]
  cases e : ltS x y with
  | true => rfl
  | false =>
    cases e2 : ltS y x with
    | true => rfl
    | false => exact absurd (sto_S.eq _ _ e e2) h
theorem kat_strs {Q : Bool → Shared → Prop} : ∀ {vs us : List Value} {xs ys : List Str} (i : Nat), StrsAre vs xs → StrsAre us ys → ∀ {fin : Bool}, fin = decide (xs.length < ys.length) → Q (lexL ltS xs ys) s → PySem.W.KatLex P w A true fin Q (vs.zip us) i s
  | _, _, _, _, i, .nil, .nil, fin, ef, q => PySem.W.kat_nil (by rw [ef]; exact q)
  | _, _, _, _, i, .nil, .cons y u r, fin, ef, q => PySem.W.kat_nil (by rw [ef]; exact q)
  | _, _, _, _, i, .cons x t r, .nil, fin, ef, q => PySem.W.kat_nil (by rw [ef]; exact q)
  | _, _, _, _, i, .cons (vs := vs) (ys := xs) x t r, .cons (vs := us) (ys := ys) y u r2, fin, ef, q => by
    refine PySem.W.kat_cons (SeqAt.EqAt.str_str x t y u P w _ _ ?_)
    refine PySem.W.kat_go (fun e1 => ?_) (fun e1 => ?_)
    · have ex : x = y := by simpa using e1
      subst ex
      refine PySem.W.kat_yes (kat_strs (i + 1) r r2 (by rw [ef]; simp) ?_)
      rw [← lex_same (x := x)]
      exact q
    · have ex : x ≠ y := by simpa using e1
      rw [lex_diff ex, ltS_dec] at q
      refine PySem.W.kat_no ?_
      cases hi : (true && i == 0) with
      | true => exact oneLt_str q
      | false => exact PySem.W.kat_one _ _ (PyProof.Rows.lt_str q)
def keyT (κ : Addr → List Str) : Value → List Str
  | .ref t => κ t
  | _ => []
def TupOfS (h : Heap) (κ : Addr → List Str) (v : Value) : Prop := ∃ t o its n, v = .ref t ∧ h.get? t = some o ∧ o.cls = .type "tuple" ∧ o.data = .seq its n ∧ StrsAre its.toList (κ t)
theorem swo_T (κ : Addr → List Str) : SrtO.Swo fun v u => lexL ltS (keyT κ v) (keyT κ u) := ⟨fun _ _ => sto_S.lex.asym _ _, fun _ _ _ => sto_S.lex.tr _ _ _⟩
theorem kat_firstsS {h : Heap} {κ : Addr → List Str} : ∀ {vs : List Value}, (∀ v ∈ vs, TupOfS h κ v ∧ keyT κ v ≠ []) → ∃ fs, PySem.W.KatTups h vs fs ∧ fs.length = vs.length ∧ ∀ f ∈ fs, ∃ x t, f = .str x t
  | [], _ => ⟨[], trivial, rfl, fun _ m => nomatch m⟩
  | v :: vs, hv => by
    obtain ⟨fs, h1, h2, h3⟩ := kat_firstsS fun u hu => hv u (List.mem_cons_of_mem _ hu)
    obtain ⟨⟨t, o, its, n, rfl, ho, hc, hd, hS⟩, hne⟩ := hv v List.mem_cons_self
    have hne : κ t ≠ [] := hne
    obtain ⟨x, u, r, er⟩ : ∃ x u r, its.toList = .str x u :: r := by
      generalize its.toList = l at hS
      generalize κ t = ks at hS hne
      cases hS with
      | nil => exact absurd rfl hne
      | cons x u r => exact ⟨_, _, _, rfl⟩
    refine ⟨.str x u :: fs, .cons ho hc hd (by rw [← Array.getElem?_toList, er]; rfl) h1, by simp [h2], fun f hf => ?_⟩
    rcases List.mem_cons.mp hf with e | hf
    · exact ⟨x, u, e⟩
    · exact h3 f hf
theorem TupOfS.keep {h h' : Heap} {κ : Addr → List Str} {v : Value} (x : TupOfS h κ v) (k : ∀ b o, h.get? b = some o → o.cls = .type "tuple" → h'.get? b = some o) : TupOfS h' κ v := by
  obtain ⟨t, o, its, n, e, ho, hc, r⟩ := x
  exact ⟨t, o, its, n, e, k t o ho hc, hc, r⟩
theorem tups_sortable {a : Addr} {vs : List Value} {κ : Addr → List Str} (h0 : 0 < vs.length) (hv : ∀ v ∈ vs, TupOfS s.heap κ v ∧ keyT κ v ≠ []) (ha : ∀ o, s.heap.get? a = some o → o.cls ≠ .type "tuple") : SrtO.SortableO P w A s a vs fun v u => lexL ltS (keyT κ v) (keyT κ u) := by
  intro h' keep
  have hv' : ∀ v ∈ vs, TupOfS h' κ v ∧ keyT κ v ≠ [] := fun v hm => ⟨(hv v hm).1.keep fun b o e c => keep b o (fun z => by subst z; exact ha o e c) e, (hv v hm).2⟩
  obtain ⟨fs, h1, h2, h3⟩ := kat_firstsS hv'
  refine ⟨tuples' true, fun Q E hq => ?_, fun p q hp hq => ?_⟩
  · refine PySem.W.kat_kind (T := .type "str") h1 (by omega) (fun f hm => ?_) (by rfl) ?_
    · obtain ⟨x, t, rfl⟩ := h3 f hm
      exact PySem.W.Looks.now
    · have e : (Value.type "str" != Value.type "tuple") = true := by first | decide +kernel | rfl | decide
      rw [e]
      exact hq
  · obtain ⟨t, o, its, n, e1, ho, hc, hd, hS⟩ := (hv' _ hp).1
    obtain ⟨t', o', its', n', e1', ho', hc', hd', hS'⟩ := (hv' _ hq).1
    show wpAny _ _ (keyLt' (tuples' true) p.1 q.1) (fun r s' => s' = _ ∧ r = lexL ltS (keyT κ p.1) (keyT κ q.1)) _ _
    rw [e1, e1']
    have l1 := hS.length
    have l2 := hS'.length
    rw [Array.length_toList] at l1 l2
    exact PySem.W.kat_lt ho hd ho' hd' (kat_strs 0 hS hS' (by rw [← l1, ← l2]) ⟨rfl, rfl⟩)
end
end Eng
namespace Eng
open PySem PySem.Spec PyProof.Rows L2
def rowsW : List W → Option (List (List Str))
  | [] => some []
  | .tup xs :: r => match strsW xs with
    | some x => (rowsW r).map (x :: ·)
    | none => none
  | _ :: _ => none
def rowW (r : List Str) : W := .tup (r.map W.str)
theorem rowsW_map : ∀ {ws : List W} {rs : List (List Str)}, rowsW ws = some rs → ws = rs.map rowW
  | [], rs, h => by cases h; rfl
  | w :: ws, rs, h => by
    cases w with
    | tup xs =>
      simp only [rowsW] at h
      split at h
      · rename_i x ex
        rw [Option.map_eq_some_iff] at h
        obtain ⟨r, h1, h2⟩ := h
        rw [← h2, List.map_cons, ← rowsW_map h1, rowW, ← strsW_map ex]
      · cases h
    | _ => cases h
def seqA (S : Store) (x : W) : Option (List W) := match seqT x with
  | some ys => some ys
  | none => seqL S x
def sortW (ys : List W) : Option (List W) := match strsW ys with
  | some ss => some ((srt ltS ss).map W.str)
  | none => match rowsW ys with
    | some rs => if rs.length < 2 ∨ [] ∉ rs then some ((srt (lexL ltS) rs).map rowW) else none
    | none => none
def oSorted (xs : List W) (S : Store) : Res W := match xs with
  | [.str z] => .ok (.lst ((srt ltS (signsS z)).map W.str)) S
  | [x] => match seqA S x with
    | some ys => match sortW ys with
      | some zs => .ok (.lst zs) S
      | none => .fail
    | none => .fail
  | _ => .fail
def strsV (vs : List V) : List Str := vs.filterMap fun
  | .str x => some x
  | _ => none
theorem strsV_map (xs : List Str) : strsV (xs.map V.str) = xs := by
  induction xs with
  | nil => rfl
  | cons x r ih =>
    show strsV (V.str x :: r.map V.str) = _
    unfold strsV at ih ⊢
    rw [List.filterMap_cons]
    simp only
    rw [ih]
def kapH (H : Hp) (t : Addr) : List Str := match H t with
  | some (.tup vs) => strsV vs
  | _ => []
theorem repL_map {α : Type} {K : PySem.W.Frag} {ρ : Rho} {H : Hp} {f : α → V} {g : α → W} : ∀ {l : List α}, (∀ x ∈ l, Rep K ρ H (f x) (g x)) → RepL K ρ H (l.map f) (l.map g)
  | [], _ => .nil
  | x :: l, h => .cons (h x List.mem_cons_self) (repL_map fun y hy => h y (List.mem_cons_of_mem _ hy))
/-- the rows of a list of tuples of texts -/
theorem rows_rep {K : PySem.W.Frag} {ρ : Rho} {H : Hp} : ∀ {vs : List V} {rs : List (List Str)}, RepL K ρ H vs (rs.map rowW) → (∀ v ∈ vs, ∃ t, v = .ref t ∧ H t = some (.tup ((kapH H t).map V.str)) ∧ Rep K ρ H v (rowW (kapH H t))) ∧ vs.map (fun v => match v with
    | .ref t => kapH H t
    | _ => []) = rs
  | _, [], h => by
    cases h
    exact ⟨fun _ m => (by cases m), rfl⟩
  | _, r :: rs, h => by
    cases h with
    | cons h1 h2 =>
      obtain ⟨i1, i2⟩ := rows_rep h2
      cases h1 with
      | @tup a us ws ht hl =>
        have e := RepL.ofStrs hl
        have ek : kapH H a = r := by unfold kapH; rw [ht.1]; simp only; rw [e, strsV_map]
        refine ⟨fun v hv => ?_, ?_⟩
        · rcases List.mem_cons.mp hv with e2 | hv
          · subst e2
            refine ⟨a, rfl, by rw [ek, ← e]; exact ht.1, by rw [ek]; exact .tup ht hl⟩
          · exact i1 v hv
        · rw [List.map_cons, i2]
          simp only
          rw [ek]
section
variable {X : Cx}
theorem sort_strs {pins : List (Addr × Obj)} {σ : L2.St} {H : Hp} {s : Shared} {its : List Value} {ss : List Str} {Q : VK} {A : Around} (I : Inv X pins σ H s) (hS : StrsAre its ss) (hz : ss.length ≤ sizeLine) (q : ∀ p, H p = none → Q (.ref p) (upd H p (.lst ((srt ltS ss).map V.str)))) :
    wpAny (model X.prog X.w) A (newList its >>= fun l => holding [l] (call (.builtin "list.sort") [l] []) >>= fun _ => ret l) (fun fin s' => ∃ v, fin = .done (.ret v) ∧ EP X pins σ Q v s') X.xe s := by
  have hlen := hS.length
  refine sort_tail swo_S (by rw [hlen]; exact hz) (fun h2 h1 a ha kk => strs_sortable h2 hS) fun h' out h1 h2 kp hn => ?_
  obtain ⟨n, hn⟩ := hn
  obtain ⟨ss', hS'⟩ : ∃ ss', StrsAre out ss' := by
    have str : ∀ v ∈ its, ∃ x t, v = .str x t := fun v hv => by
      clear hlen h1 h2 hn q
      induction hS with
      | nil => cases hv
      | cons x t _ ih =>
        rcases List.mem_cons.mp hv with e | hv
        · exact ⟨_, _, e⟩
        · exact ih (Nat.le_trans (Nat.le_succ _) hz) hv
    have str2 : ∀ v ∈ out, ∃ x t, v = .str x t := fun v hv => str v (h2.perm.mem_iff.mp hv)
    clear h1 h2 hn
    induction out with
    | nil => exact ⟨[], .nil⟩
    | cons v out ih =>
      obtain ⟨x, t, rfl⟩ := str2 v List.mem_cons_self
      obtain ⟨r, hr⟩ := ih fun u hu => str2 u (List.mem_cons_of_mem _ hu)
      exact ⟨x :: r, .cons x t hr⟩
  have key : ∀ {vs : List Value} {xs : List Str}, StrsAre vs xs → vs.map keyS = xs := fun h => by
    induction h with
    | nil => rfl
    | cons x t _ ih => rw [List.map_cons, ih]; rfl
  have e1 : ss' = srt ltS ss := by
    rw [← key hS', ← key hS]
    exact srt_uniq sto_S (h2.perm.map keyS) (List.pairwise_map.mpr h1)
  rw [← e1] at q
  refine ⟨.ref s.heap.objs.size, upd H s.heap.objs.size (.lst (ss'.map V.str)), I.laid (t' := s.toks) kp (Nat.le_refl _) ⟨?_, out, n, vals_of_strs hS', hn⟩, rfl, q _ (I.hok.fresh (Nat.le_refl _))⟩
  rw [List.length_map, e1, (srt_perm ss).length_eq]
  exact hz
theorem sort_rows {K : PySem.W.Frag} {ρ : Rho} {pins : List (Addr × Obj)} {σ : L2.St} {H : Hp} {s : Shared} {its : List Value} {vs : List V} {rs : List (List Str)} {Q : VK} {A : Around} (I : Inv X pins σ H s) (rv : Vals vs its) (hl : RepL K ρ H vs (rs.map rowW)) (hne : rs.length < 2 ∨ [] ∉ rs) (hz : vs.length ≤ sizeLine)
    (q : ∀ p us, RepL K ρ H us ((srt (lexL ltS) rs).map rowW) → H p = none → Q (.ref p) (upd H p (.lst us))) :
    wpAny (model X.prog X.w) A (newList its >>= fun l => holding [l] (call (.builtin "list.sort") [l] []) >>= fun _ => ret l) (fun fin s' => ∃ v, fin = .done (.ret v) ∧ EP X pins σ Q v s') X.xe s := by
  obtain ⟨i1, i2⟩ := rows_rep hl
  obtain ⟨e1, e2⟩ := refs_back rv fun v hv => let ⟨t, e, _⟩ := i1 v hv; ⟨t, e⟩
  have ek : its.map (keyT (kapH H)) = rs := by
    rw [← i2, e1, List.map_map]
    refine List.map_congr_left fun u hu => ?_
    obtain ⟨t, rfl⟩ := e2 u hu
    rfl
  have htup : ∀ u ∈ its, TupOfS s.heap (kapH H) u := fun u hu => by
    obtain ⟨t, rfl⟩ := e2 u hu
    have hm : V.ref t ∈ vs := by rw [e1]; exact List.mem_map.mpr ⟨_, hu, rfl⟩
    obtain ⟨t', et, ht, _⟩ := i1 _ hm
    cases et
    obtain ⟨_, its2, r2, o, ho, hc, n, hd⟩ := I.hok _ _ ht
    exact ⟨t, o, _, n, rfl, ho, hc, hd, r2.strs⟩
  have hlr : rs.length = its.length := by rw [← ek, List.length_map]
  refine sort_tail (swo_T (kapH H)) (by rw [← rv.length]; exact hz) (fun h2 h1 a ha kk => ?_) fun h' out h1 h2 kp hn => ?_
  · refine tups_sortable (s := { s with heap := h1 }) (by omega) (fun u hu => ⟨(htup u hu).keep fun b o e _ => (kk b o e).2, fun z => ?_⟩) fun o e => ?_
    · rcases hne with h3 | h3
      · omega
      · refine h3 ?_
        rw [← ek, ← z]
        exact List.mem_map.mpr ⟨u, hu, rfl⟩
    · have e' : some o = some (seqObj "list" its.toArray 0) := e.symm.trans ha
      cases e'
      intro c
      exact absurd (Value.type.inj c) (by decide)
  · obtain ⟨n, hn⟩ := hn
    have h3 : ∀ u ∈ out, ∃ a, u = Value.ref a := fun u hu => e2 u (h2.perm.mem_iff.mp hu)
    have es : out.map (keyT (kapH H)) = srt (lexL ltS) rs := by
      rw [← ek]
      exact srt_uniq sto_S.lex (h2.perm.map _) (List.pairwise_map.mpr h1)
    have hr : RepL K ρ H (out.map backV) ((srt (lexL ltS) rs).map rowW) := by
      rw [← es, List.map_map]
      refine repL_map fun u hu => ?_
      obtain ⟨t, rfl⟩ := h3 u hu
      have hm : V.ref t ∈ vs := by rw [e1]; exact List.mem_map.mpr ⟨_, h2.perm.mem_iff.mp hu, rfl⟩
      obtain ⟨t', et, _, r⟩ := i1 _ hm
      cases et
      exact r
    refine ⟨.ref s.heap.objs.size, upd H s.heap.objs.size (.lst (out.map backV)), I.laid (t' := s.toks) kp (Nat.le_refl _) ⟨?_, out, n, vals_back h3, hn⟩, rfl, q _ _ hr (I.hok.fresh (Nat.le_refl _))⟩
    rw [List.length_map, h2.perm.length_eq, ← rv.length]
    exact hz
theorem c_sorted (hc : X.calm = true) : CallA X (.builtin "sorted") oSorted := by
  intro pins s σ H xs us Q I r q
  obtain ⟨ρ, S, ws, hr, rw_, q⟩ := q
  unfold oSorted at q
  split at q
  · rename_i z
    obtain ⟨v, rfl, h⟩ := repL1 rw_
    cases h with
    | str hz =>
      obtain ⟨u, rfl, t, rfl⟩ := vals1 r
      refine sorted_of (wpAny_collect_str (A := X.A.in1) (I.ok.hd hc) z t (fun s' acc kp g1 g2 g3 hi => ?_) (okS_len hz))
      obtain ⟨hp, gs, dr, tk, os⟩ := s'
      have g1 : gs = s.gens := g1
      have g2 : dr = s.drawn := g2
      have g3 : os = s.os := g3
      subst g1 g2 g3
      have I1 : Inv X pins σ H ⟨hp, s.gens, s.drawn, tk, s.os⟩ := I.kept (t' := tk) kp
      refine sort_strs I1 (signs_vals hi).strs (by rw [signsS, List.length_map]; exact okS_len hz) fun p hp' => q.lst hr (RepL.strs _ fun y hy => okS_signs hz y ((srt_perm _).mem_iff.mp hy)) hp'
  · obtain ⟨v, rfl, h⟩ := repL1 rw_
    split at q
    · rename_i ys ey
      split at q
      · rename_i zs ez
        have main : ∀ (ad : Addr) (vs : List V) (its : List Value) (s1 : Shared), Inv X pins σ H s1 → Vals vs its → RepL X.K ρ H vs ys → vs.length ≤ sizeLine →
            wpAny (model X.prog X.w) X.A.in1 (newList its >>= fun l => holding [l] (call (.builtin "list.sort") [l] []) >>= fun _ => ret l) (fun fin s' => ∃ v, fin = .done (.ret v) ∧ EP X pins σ Q v s') X.xe s1 := fun ad vs its s1 I1 rv hl hz => by
          unfold sortW at ez
          split at ez
          · rename_i ss es
            cases ez
            have e1 := strsW_map es
            subst e1
            have e2 := RepL.ofStrs hl
            subst e2
            have oks : ∀ x ∈ ss, okS x = true := fun x hx => by
              obtain ⟨i, hi⟩ := List.mem_iff_getElem?.mp hx
              obtain ⟨v', e3, r3⟩ := hl.get (i := i) (w := .str x) (by rw [List.getElem?_map, hi]; rfl)
              cases r3 with
              | str hk => exact hk
            exact sort_strs I1 rv.strs (by rw [List.length_map] at hz; exact hz) fun p hp' => q.lst hr (RepL.strs _ fun y hy => oks y ((srt_perm _).mem_iff.mp hy)) hp'
          · split at ez
            · rename_i rs er
              split at ez
              · rename_i hne
                cases ez
                have e1 := rowsW_map er
                subst e1
                exact sort_rows I1 rv hl hne hz fun p us hu hp' => q.lst hr hu hp'
              · cases ez
            · cases ez
        unfold seqA at ey
        split at ey
        · rename_i zs' ez'
          cases ey
          obtain ⟨ad, vs, rfl, h1, h2⟩ := seqT_sq h ez'
          obtain ⟨u, rfl, ru⟩ := vals1 r
          obtain rfl : u = Value.ref ad := ru
          obtain ⟨its, rv, ⟨o, ho, hcl, n, hd⟩, hz⟩ := I.tuple h1
          refine sorted_of (wpAny_collect_seq ad (.inr rfl) ho hcl hd (fun h' kp => ?_) (by rw [List.size_toArray, ← rv.length]; exact hz))
          exact main ad vs its _ (I.kept (t' := s.toks) kp) rv h2 hz
        · obtain ⟨ad, vs, rfl, h1, h2⟩ := seqL_sq hr h ey
          obtain ⟨u, rfl, ru⟩ := vals1 r
          obtain rfl : u = Value.ref ad := ru
          obtain ⟨its, rv, p', hz⟩ := I.list h1
          obtain ⟨o, ho, hcl, n, hd⟩ := p'.isList
          refine sorted_of (wpAny_collect_seq ad (.inl rfl) ho hcl hd (fun h' kp => ?_) (by rw [List.size_toArray, ← rv.length]; exact hz))
          exact main ad vs its _ (I.kept (t' := s.toks) kp) rv h2 hz
      · exact q.elim
    · exact q.elim
  · exact q.elim
end
end Eng
namespace Eng
open PySem PySem.Spec PyProof.Rows L2
/-! ### list(x), dicts too -/
def keyVW : Key → W
  | .inl i => .int i
  | .inr x => .str x
def okKey : Key → Bool
  | .inl _ => true
  | .inr x => okS x
def dictOf (xs : List W) (S : Store) : Option (List (Key × W)) := match xs with
  | [.ref n] => match S[n]? with
    | some (.dK kvs) => some kvs
    | _ => none
  | _ => none
def oListX (xs : List W) (S : Store) : Res W := match dictOf xs S with
  | some kvs => if kvs.all (fun kv => okKey kv.1) = true then .ok (.lst (kvs.map fun kv => keyVW kv.1)) S else .fail
  | none => oList xs S
def oListXR (xs : List W) (S : Store) : Res W := match dictOf xs S with
  | some kvs => if kvs.all (fun kv => okKey kv.1) = true then .ok (.ref S.length) (S ++ [.lst (kvs.map fun kv => keyVW kv.1)]) else .fail
  | none => oListR xs S
theorem key_rep {K : PySem.W.Frag} {ρ : Rho} {H : Hp} {k : Key} (h : okKey k = true) : Rep K ρ H (kV k) (keyVW k) := by
  cases k with
  | inl i => exact .int
  | inr x => exact .str h
theorem keys_rep {K : PySem.W.Frag} {ρ : Rho} {H : Hp} : ∀ {kws : List (Key × V)} {kvs : List (Key × W)}, kws.map (·.1) = kvs.map (·.1) → kvs.all (fun kv => okKey kv.1) = true → RepL K ρ H (kws.map fun kv => kV kv.1) (kvs.map fun kv => keyVW kv.1)
  | [], [], _, _ => .nil
  | [], _ :: _, h, _ => by cases h
  | _ :: _, [], h, _ => by cases h
  | p :: kws, q :: kvs, h, ok => by
    simp only [List.map_cons, List.cons.injEq] at h
    simp only [List.all_cons, Bool.and_eq_true] at ok
    refine .cons ?_ (keys_rep h.2 ok.2)
    show Rep K ρ H (kV p.1) (keyVW q.1)
    rw [h.1]
    exact key_rep ok.1
theorem dictOf_rep {K : PySem.W.Frag} {ρ : Rho} {S : Store} {H : Hp} {vs : List V} {ws : List W} {kvs : List (Key × W)} (hr : Rel K ρ S H) (r : RepL K ρ H vs ws) (e : dictOf ws S = some kvs) : ∃ p kws, vs = [.ref p] ∧ H p = some (.dK kws) ∧ kws.map (·.1) = kvs.map (·.1) := by
  unfold dictOf at e
  split at e
  · split at e
    · rename_i ek
      cases e
      obtain ⟨v, rfl, h⟩ := repL1 r
      cases h with
      | ref hn =>
        obtain ⟨kws, h1, h2, _⟩ : ObRep K ρ H (.dK kvs) _ := hr.obs _ _ _ ek hn
        exact ⟨_, kws, rfl, h1, h2⟩
    · cases e
  · cases e
theorem c_listX {X : Cx} (hc : X.calm = true) : CallA X (.type "list") oListX := by
  intro pins s σ H xs us Q I r q
  obtain ⟨ρ, S, ws, hr, rw_, q⟩ := q
  unfold oListX at q
  split at q
  · rename_i kvs e
    split at q
    · rename_i hk
      obtain ⟨p, kws, rfl, h1, h2⟩ := dictOf_rep hr rw_ e
      exact call_list_dK hc pins s σ H _ us Q I r ⟨p, kws, rfl, h1, fun p' hp => q.lst hr (keys_rep h2 hk) hp⟩
    · exact q.elim
  · exact c_list hc pins s σ H xs us Q I r ⟨ρ, S, ws, hr, rw_, q⟩
theorem c_listXR {X : Cx} (hc : X.calm = true) : CallA X (.type "list") oListXR := by
  intro pins s σ H xs us Q I r q
  obtain ⟨ρ, S, ws, hr, rw_, q⟩ := q
  unfold oListXR at q
  split at q
  · rename_i kvs e
    split at q
    · rename_i hk
      obtain ⟨p, kws, rfl, h1, h2⟩ := dictOf_rep hr rw_ e
      exact call_list_dK hc pins s σ H _ us Q I r ⟨p, kws, rfl, h1, fun p' hp => q.lstR hr (keys_rep h2 hk) hp⟩
    · exact q.elim
  · exact c_listR hc pins s σ H xs us Q I r ⟨ρ, S, ws, hr, rw_, q⟩
/-! ### {k: v, ..} -/
def mPairs : List (FE × FE) → ASt → Store → Res (List (W × W))
  | [], _, S => .ok [] S
  | p :: r, τ, S => (noX (p.1 τ S)).bind fun k S1 => (noX (p.2 τ S1)).bind fun v S2 => (mPairs r τ S2).bind fun ps S3 => .ok ((k, v) :: ps) S3
def putAll (o : Ob) : List (W × W) → Option Ob
  | [] => some o
  | p :: r => match putOb o p.1 p.2 with
    | some o' => putAll o' r
    | none => none
def mDisp (o0 : Ob) (l : List (FE × FE)) : FE := fun τ S => (mPairs l τ S).bind fun ps S1 => match putAll o0 ps with
  | some o => .ok (.ref S1.length) (S1 ++ [o])
  | none => .fail
inductive RepPs (K : PySem.W.Frag) (ρ : Rho) (H : Hp) : List (V × V) → List (W × W) → Prop
  | nil : RepPs K ρ H [] []
  | cons {k v : V} {a b : W} {ps : List (V × V)} {ws : List (W × W)} : Rep K ρ H k a → Rep K ρ H v b → RepPs K ρ H ps ws → RepPs K ρ H ((k, v) :: ps) ((a, b) :: ws)
theorem RepPs.ext {K : PySem.W.Frag} {ρ ρ' : Rho} {H H' : Hp} (e : Ext ρ H ρ' H') {ps : List (V × V)} {ws : List (W × W)} (h : RepPs K ρ H ps ws) : RepPs K ρ' H' ps ws := by
  induction h with
  | nil => exact .nil
  | cons a b _ ih => exact .cons (a.ext e) (b.ext e) ih
section
variable {X : Cx} {Wx : WX} {pos : Pos}
theorem pairs_go {K : PySem.W.Frag} {σ : L2.St} {τ : ASt} : ∀ (l : List (FE × FE)) {ρ : Rho} {S : Store} {H : Hp} {ws : List (W × W)} {S' : Store} {Q : List (V × V) → Hp → Prop}, Rel K ρ S H → StRep K ρ H σ τ → mPairs l τ S = .ok ws S' →
    (∀ ρ' H' ps, Evo ρ H ρ' H' → Rel K ρ' S' H' → RepPs K ρ' H' ps ws → Q ps H') → tPairs (l.map fun p => (RdE K Wx0 p.1, RdE K Wx0 p.2)) σ H Q
  | [], ρ, S, H, ws, S', Q, r, s, e, q => by
    cases e
    exact q ρ H [] Evo.refl r .nil
  | p :: l, ρ, S, H, ws, S', Q, r, s, e, q => by
    unfold mPairs at e
    cases h1 : p.1 τ S with
    | fail => rw [h1] at e; cases e
    | exc _ _ => rw [h1] at e; cases e
    | ok k S1 =>
      rw [h1] at e
      simp only [noX, Res.bind_ok] at e
      refine ⟨ρ, S, τ, r, s, ?_⟩
      rw [h1]
      intro ρ1 H1 e1 r1 v1 rv1
      cases h2 : p.2 τ S1 with
      | fail => rw [h2] at e; cases e
      | exc _ _ => rw [h2] at e; cases e
      | ok v S2 =>
        rw [h2] at e
        simp only [noX, Res.bind_ok] at e
        refine ⟨ρ1, S1, τ, r1, s.evo e1, ?_⟩
        rw [h2]
        intro ρ2 H2 e2 r2 v2 rv2
        cases h3 : mPairs l τ S2 with
        | fail => rw [h3] at e; cases e
        | exc _ _ => rw [h3] at e; cases e
        | ok ps S3 =>
          rw [h3] at e
          cases e
          exact pairs_go l r2 ((s.evo e1).evo e2) h3 fun ρ3 H3 ps' e3 r3 rp => q ρ3 H3 _ ((e1.trans e2).trans e3) r3 (.cons ((rv1.evo e2).evo e3) (rv2.evo e3) rp)
theorem mPairs_noexc {τ : ASt} {x : XV} {S' : Store} : ∀ (l : List (FE × FE)) (S : Store), mPairs l τ S ≠ .exc x S'
  | [], S => by intro h; cases h
  | p :: l, S => by
    intro h
    unfold mPairs at h
    cases h1 : p.1 τ S with
    | fail => rw [h1] at h; cases h
    | exc _ _ => rw [h1] at h; cases h
    | ok k S1 =>
      rw [h1] at h
      simp only [noX, Res.bind_ok] at h
      cases h2 : p.2 τ S1 with
      | fail => rw [h2] at h; cases h
      | exc _ _ => rw [h2] at h; cases h
      | ok v S2 =>
        rw [h2] at h
        simp only [noX, Res.bind_ok] at h
        cases h3 : mPairs l τ S2 with
        | fail => rw [h3] at h; cases h
        | exc _ _ => exact mPairs_noexc l S2 h3
        | ok ps S3 => rw [h3] at h; cases h
theorem store_all {pins : List (Addr × Obj)} {σ : L2.St} {ρ ρ2 : Rho} {H : Hp} {D : Addr} {h0 : HO} {S2 : Store} {E : Value → Shared → Prop} (hu : X.A.units + 1 < cLine) (hD : H D = none) (r1 : Rel X.K ρ S2 H ∨ True) :
    ∀ {ps : List (V × V)} {ws : List (W × W)} {us : List (Value × Value)} {o o' : Ob} {H2 : Hp} {s : Shared} {Q : PUnit → Shared → Prop}, DcAt X.K ρ H D h0 o ρ2 S2 H2 → D ∉ ρ.hid → RepPs X.K ρ2 H2 ps ws → VV ps us → putAll o ws = some o' → Inv X pins σ H2 s →
      (∀ s' H3, DcAt X.K ρ H D h0 o' ρ2 S2 H3 → Inv X pins σ H3 s' → Q PUnit.unit s') → wpAny (model X.prog X.w) X.A (storeAll D us) Q E s
  | [], _, _, o, o', H2, s, Q, ca, nd, .nil, .nil, e, I, q => by
    cases e
    unfold storeAll
    rw [List.forIn_nil]
    exact wpAny_pure (q s H2 ca I)
  | p :: ps, _, _, o, o', H2, s, Q, ca, nd, .cons ra rb rp, .cons rv t, e, I, q => by
    unfold putAll at e
    split at e
    · rename_i o1 e1
      obtain ⟨ho, dp, ob⟩ := putOb_ok ca.acc ra rb e1
      have hm : D ∈ ρ2.hid := by rw [ca.hid]; exact List.mem_cons_self
      unfold storeAll
      rw [List.forIn_cons]
      refine wpAny_bind (wpAny_bind (dictSet_any hu I dp rv.1 rv.2 fun s' I' => wpAny_pure ?_))
      have ca' : DcAt X.K ρ H D h0 o1 ρ2 S2 (upd H2 D ho) := ⟨ca.ext.trans (Ext.hset hm), ca.hid, fun a ha => by
        rw [upd_ne fun z => nd (by rw [← z]; exact ha)]
        exact ca.stay a ha, ca.rel.hset hm, ob ρ2 (Ext.hset hm)⟩
      exact store_all hu hD r1 ca' nd (rp.ext (Ext.hset hm)) t e I' q
    · cases e
theorem a_disp {keys : List (Option Expr)} {values : List Expr} {l : List (FE × FE)} {o0 : Ob} (ho0 : o0 = .dK [] ∨ o0 = .dT []) (hu : X.A.units + 1 < cLine) (h : PPs X pos keys values (l.map fun p => (RdE X.K Wx0 p.1, RdE X.K Wx0 p.2))) (hall : keys.all (·.isSome) = true := by rfl) (hl : keys.length = values.length := by rfl)
    (h0 : keys ≠ [] := by simp) (h15 : keys.length ≤ 15 := by decide) : AE X Wx (.Dict keys values pos) (mDisp o0 l) := by
  refine ⟨fun pins s σ H Q I ⟨ρ, S, τ, r1, s1, h3⟩ => ?_⟩
  have hn := I.hok.fresh (Nat.le_refl s.heap.objs.size)
  have I1 : Inv X pins σ (upd H s.heap.objs.size (obH o0)) { s with heap := s.heap.push { cls := .type "dict", data := .dict #[] } } := by
    rcases ho0 with rfl | rfl
    · exact I.laid (a := s.heap.objs.size) (o := .dK []) (t' := s.toks) (fun _ _ q => Heap.get?_push_of_some _ q) (Nat.le_refl _) (dk_empty s.heap I.big)
    · exact I.laid (a := s.heap.objs.size) (o := .dT []) (t' := s.toks) (fun _ _ q => Heap.get?_push_of_some _ q) (Nat.le_refl _) (dt_empty s.heap I.big)
  unfold mDisp at h3
  cases em : mPairs l τ S with
  | fail => rw [em] at h3; exact h3.elim
  | exc x S' => exact absurd em (mPairs_noexc l S)
  | ok ws S' =>
    rw [em] at h3
    simp only [Res.bind_ok] at h3
    split at h3
    · rename_i o eo
      have sr : StRep X.K (ρ.hide s.heap.objs.size) (upd H s.heap.objs.size (obH o0)) σ τ := s1.ext (Ext.hide hn)
      refine wpAny_Dict_any hall hl h0 h15 (thn (h.run pins _ σ _ _ I1 (pairs_go l (r1.hide hn) sr em (Q := fun ps H2 => ∃ ρ2, Evo (ρ.hide s.heap.objs.size) (upd H s.heap.objs.size (obH o0)) ρ2 H2 ∧ Rel X.K ρ2 S' H2 ∧ RepPs X.K ρ2 H2 ps ws) fun ρ2 H2 ps e2 r2 rp => ⟨ρ2, e2, r2, rp⟩)) fun us s2 ⟨ps, H2, I2, rel, ρ2, e2, r2, rp⟩ => ?_)
      have ca0 : DcAt X.K ρ H s.heap.objs.size (obH o0) o0 (ρ.hide s.heap.objs.size) S (upd H s.heap.objs.size (obH o0)) := ⟨Ext.refl, rfl, fun a ha => (by
        obtain ⟨u, qu⟩ := r1.hidT a ha
        rw [upd_ne (ne_of_none qu hn)]), r1.hide hn, (by
        rcases ho0 with rfl | rfl
        · exact ⟨[], upd_same, rfl, .nil⟩
        · exact ⟨[], upd_same, rfl, .nil⟩)⟩
      have ca := ca0.go e2 r2
      refine store_all hu hn (.inr trivial) ca (r1.notin hn).2 rp rel eo I2 fun s' H3 ca3 I3 => ?_
      obtain ⟨ρ3, f1, f2, f3⟩ := ca3.fin r1 hn
      exact ⟨.ref s.heap.objs.size, H3, I3, rfl, h3 ρ3 H3 f1 f2 _ f3⟩
    · exact h3.elim
end
end Eng
namespace Eng
open PySem PySem.Spec PyProof.Rows L2
/-! ### calls with keywords -/
/-- the places of all that is handed in, in the parameters' order -/
def pick {α : Type} (π : List Nat) (us ws : List α) : List α := π.filterMap fun i => (us ++ ws)[i]?
theorem vals_app : ∀ {xs ys : List V} {us ws : List Value}, Vals xs us → Vals ys ws → Vals (xs ++ ys) (us ++ ws)
  | _, _, _, _, .nil, h => h
  | _, _, _, _, .cons r t, h => .cons r (vals_app t h)
theorem vals_get : ∀ {xs : List V} {us : List Value}, Vals xs us → ∀ i : Nat, (xs[i]? = none ∧ us[i]? = none) ∨ ∃ x u, xs[i]? = some x ∧ us[i]? = some u ∧ RelV x u
  | _, _, .nil, i => .inl ⟨rfl, rfl⟩
  | _, _, .cons r t, 0 => .inr ⟨_, _, rfl, rfl, r⟩
  | _, _, .cons r t, i + 1 => vals_get t i
theorem pick_vals {vs zs : List V} {us ws : List Value} (h1 : Vals vs us) (h2 : Vals zs ws) (π : List Nat) : Vals (pick π vs zs) (pick π us ws) := by
  have h := vals_app h1 h2
  unfold pick
  induction π with
  | nil => exact .nil
  | cons i r ih =>
    rw [List.filterMap_cons, List.filterMap_cons]
    rcases vals_get h i with ⟨e1, e2⟩ | ⟨x, u, e1, e2, rx⟩
    · rw [e1, e2]; exact ih
    · rw [e1, e2]; exact .cons rx ih
theorem pick_rep {K : PySem.W.Frag} {ρ : Rho} {H : Hp} {vs zs : List V} {us ws : List W} (h1 : RepL K ρ H vs us) (h2 : RepL K ρ H zs ws) (π : List Nat) : RepL K ρ H (pick π vs zs) (pick π us ws) := by
  have h := h1.append h2
  unfold pick
  induction π with
  | nil => exact .nil
  | cons i r ih =>
    rw [List.filterMap_cons, List.filterMap_cons]
    cases e : (us ++ ws)[i]? with
    | none =>
      have : (vs ++ zs)[i]? = none := by
        rw [List.getElem?_eq_none_iff] at e ⊢
        rw [h.length]
        exact e
      rw [this]; exact ih
    | some u =>
      obtain ⟨v, e2, rv⟩ := h.get e
      rw [e2]; exact .cons rv ih
structure FnK (P : Program) (w : World) (K : PySem.W.Frag) (mg : Str → Option Value) (base : Heap) (k n : Nat) (x : Str) (m : Nat) (ks : List Str) (π : List Nat) (fw : List W → Store → Res W) : Prop where
  ex : ∃ (f : Addr) (fd : FuncData) (ps : List Str), FnOk P w K mg base (L2.CX P w) k f fd ps (spA K n fw) ∧ mg x = some (.ref f) ∧ PySem.W.keepIn K (.ref f) = true ∧ KBn K fd ps m ks (pick π) (pick π)
theorem kbn_of {K : PySem.W.Frag} {x qual : Str} {params : Arguments} {body : List Stmt} {scope : Scope} {kws : List (Str × V)} {f : Addr} {fd : FuncData} {ps ks : List Str} {m : Nat} {π : List Nat} (F : FunD K x qual params body scope [] kws f fd)
    (h : ∀ (kV doc pm : Value) (an : Option Addr) (cdv ct : Value) (us ws : List Value), us.length = m → ws.length = ks.length → bindArgs (PySem.W.fnOf x qual params body scope .none kV doc pm an cdv ct) ⟨us, ks.zip ws⟩ = pure (ps.zip (pick π us ws))) : KBn K fd ps m ks (pick π) (pick π) := by
  obtain ⟨oc, od, dV, kV, doc, pm, an, cdv, ct, osl, rfl, lk, hcd, hD, hK⟩ := F.ex
  rcases hD with ⟨_, rfl⟩ | ⟨e, _⟩
  · exact ⟨fun s us ws _ h1 h2 => .of_eq (h kV doc pm an cdv ct us ws h1 h2), fun r1 r2 => pick_vals r1 r2 π⟩
  · exact absurd rfl e
def AK (X : Cx) (Wx : WX) (kws : List Keyword) (g : FA) : Prop := PK X kws (RdA X.K Wx g)
theorem pkM {X : Cx} {e : List Keyword} {t t' : TA} (h : PK X e t) (m : ∀ σ H Q, t' σ H Q → t σ H Q) : PK X e t' := ⟨fun p pins s σ H Q I q => h.run p pins s σ H Q I (m σ H Q q)⟩
section
variable {X : Cx} {Wx : WX} {e : Expr} {es : List Expr} {kws : List Keyword} {f : FE} {g ga gk : FA} {pos p kpos : Pos} {nm : Option Str}
theorem ak_nil : AK X Wx [] mNil := pkM pk_nil fun σ H Q ⟨ρ, S, τ, h1, h2, h3⟩ => h3.ok_now h1 _ .nil
theorem ak_cons (he : AE X Wx e f) (hr : AK X Wx kws g) : AK X Wx (⟨nm, e, kpos⟩ :: kws) (mCons f g) :=
  pkM (pk_cons he hr) fun σ H Q ⟨ρ, S, τ, h1, h2, h3⟩ => by
    refine RdE.mk h1 h2 h3.split fun x ρ1 S1 H1 v e1 r1 s1 rv q1 => ?_
    refine RdA.mk r1 s1 q1.split fun xs ρ2 S2 H2 vs e2 r2 s2 rvs q2 => ?_
    exact q2.ok_now r2 _ (.cons (rv.evo e2) rvs)
def mKw (n m l : Nat) (π : List Nat) (fw : List W → Store → Res W) (ga gk : FA) : FE := fun τ S => (ga τ S).bind fun us S1 => (gk τ S1).bind fun ws S2 => if us.length = m ∧ ws.length = l ∧ (pick π us ws).length = n then fw (pick π us ws) S2 else .fail
theorem run_kw {k m : Nat} {fa : Addr} {fd : FuncData} {ps ks : List Str} {sp : Sp} {pins : List (Addr × Obj)} {σ : L2.St} {H : Hp} {s : Shared} {Q : VK} {us ws : List Value} {vs zs : List V} {π : List Nat} (F : FnOk X.prog X.w X.K X.mg X.base (L2.CX X.prog X.w) k fa fd ps sp) (hr : Room k X.A) (hb : KBn X.K fd ps m ks (pick π) (pick π)) (hx : PassesAt (L2.CX X.prog X.w) X σ (WE Wx σ))
    (I : Inv X pins σ H s) (r : Vals vs us) (rz : Vals zs ws) (l1 : vs.length = m) (l2 : zs.length = ks.length) (h : sp (pick π vs zs) H Q (WE Wx σ)) : wpAny (model X.prog X.w) X.A (call (.ref fa) us (ks.zip ws)) (EP X pins σ Q) X.xe s := by
  refine wpAny_call (codeAny_mono (F.run X.A X.stack s H ⟨us, ks.zip ws⟩ (pick π us ws) (pick π vs zs) Q (WE Wx σ) hr I.env0 (hb.to s us ws I.kIn (r.length.symm.trans l1) (rz.length.symm.trans l2)) (hb.rel r rz) h) fun r s' hq => ?_)
  cases r with
  | error e => exact hx pins H s e s' I hq
  | ok fl =>
    cases fl with
    | ret u => exact I.after hq
    | next => exact False.elim hq
    | brk => exact False.elim hq
    | cont => exact False.elim hq
/-- f(k = v, ..) -/
theorem a_kw0 {k j n : Nat} {x : Str} {ks : List Str} {π : List Nat} {fw : List W → Store → Res W} (F : FnK X.prog X.w X.K X.mg X.base k n x 0 ks π fw) (hr : Room j X.A) (hj : k ≤ j) (hg : Gl X x) (tk : Takes X Wx) (hkw : AK X Wx kws gk)
    (hks : (backToKw pos (keywordEach kws X.env)).filterMap (·.1) = ks := by rfl) (hall : (backToKw pos (keywordEach kws X.env)).all (·.1.isSome) = true := by rfl) (hdb : (x == ("__debug__" : Str)) = false := by decide)
    (hpl : ((backTo pos (starEach [] X.env)).any (·.1) || (backToKw pos (keywordEach kws X.env)).any (·.1.isNone)) = false := by rfl) : AE X Wx (.Call (.Name x p) [] kws pos) (mKw n 0 ks.length π fw mNil gk) := by
  obtain ⟨f, fd, ps, h1, h2, h3, h4⟩ := F.ex
  refine ⟨fun pins s σ H Q I ⟨ρ, S, τ, r0, s0, q0⟩ => ?_⟩
  refine wpAny_Call_Name_kw (ld_glob I hg h2 ?_ hdb)
  have t : RdA X.K Wx gk σ H fun zs H2 => zs.length = ks.length ∧ spA X.K n fw (pick π [] zs) H2 Q (WE Wx σ) := by
    have q00 := (ROk.split (r := mNil τ S) q0).ok_now r0
    refine RdA.mk r0 s0 q00.split fun ws ρ1 S1 H1 vs e1 r1 s1 rvs q1 => ?_
    split at q1
    · rename_i hl
      refine ⟨by rw [rvs.length]; exact hl.2.1, ?_⟩
      have rp := pick_rep (RepL.nil (K := X.K) (ρ := ρ1) (H := H1)) rvs π
      exact ⟨by rw [rp.length]; exact hl.2.2, ρ1, S1, pick π [] ws, r1, rp, q1⟩
    · exact q1.elim
  refine PySem.W.callWith_KW0 (h₀ := X.base) I.ok.mod.kin h3 hall (thn (hkw.run pos pins s σ H _ I t) fun ws s2 ⟨zs, H2, I2, rz, l2, q2⟩ => ⟨I2.kIn, ?_⟩) hpl
  rw [hks]
  exact run_kw (us := []) (vs := []) h1 (hr.mono hj) h4 (passAt tk σ) I2 .nil rz rfl l2 q2
/-- f(e, .., k = v, ..) -/
theorem a_kw {k j n m : Nat} {x : Str} {ks : List Str} {π : List Nat} {fw : List W → Store → Res W} (F : FnK X.prog X.w X.K X.mg X.base k n x m ks π fw) (hr : Room j X.A) (hj : k ≤ j) (hg : Gl X x) (tk : Takes X Wx) (ha : AA X Wx (e :: es) ga) (hkw : AK X Wx kws gk)
    (hks : (backToKw pos (keywordEach kws X.env)).filterMap (·.1) = ks := by rfl) (hall : (backToKw pos (keywordEach kws X.env)).all (·.1.isSome) = true := by rfl) (hdb : (x == ("__debug__" : Str)) = false := by decide) (he : starEach (e :: es) X.env = (false, eval e X.env) :: starEach es X.env := by rfl)
    (hpl : ((backTo pos (starEach (e :: es) X.env)).any (·.1) || (backToKw pos (keywordEach kws X.env)).any (·.1.isNone)) = false := by rfl) : AE X Wx (.Call (.Name x p) (e :: es) kws pos) (mKw n m ks.length π fw ga gk) := by
  obtain ⟨f, fd, ps, h1, h2, h3, h4⟩ := F.ex
  refine ⟨fun pins s σ H Q I ⟨ρ, S, τ, r0, s0, q0⟩ => ?_⟩
  refine wpAny_Call_Name_kw (ld_glob I hg h2 ?_ hdb)
  have t : RdA X.K Wx ga σ H fun vs H1 => RdA X.K Wx gk σ H1 fun zs H2 => vs.length = m ∧ zs.length = ks.length ∧ spA X.K n fw (pick π vs zs) H2 Q (WE Wx σ) := by
    refine RdA.mk r0 s0 q0.split fun us ρ1 S1 H1 vs e1 r1 s1 rvs q1 => ?_
    refine RdA.mk r1 s1 q1.split fun ws ρ2 S2 H2 zs e2 r2 s2 rzs q2 => ?_
    split at q2
    · rename_i hl
      refine ⟨by rw [rvs.length]; exact hl.1, by rw [rzs.length]; exact hl.2.1, ?_⟩
      have rp := pick_rep (rvs.evo e2) rzs π
      exact ⟨by rw [rp.length]; exact hl.2.2, ρ2, S2, pick π us ws, r2, rp, q2⟩
    · exact q2.elim
  refine PySem.W.callWith_KW (h₀ := X.base) I.ok.mod.kin h3 hall (thn (ha.run pos pins s σ H _ I t) fun us s1 ⟨vs, H1, I1, r, q⟩ => ?_) hpl he
  refine thn (hkw.run pos pins s1 σ H1 _ I1 q) fun ws s2 ⟨zs, H2, I2, rz, l1, l2, q2⟩ => ⟨I2.kIn, ?_⟩
  rw [hks]
  exact run_kw h1 (hr.mono hj) h4 (passAt tk σ) I2 r rz l1 l2 q2
end
end Eng
namespace Eng
open PySem PySem.Spec PyProof.Rows L2
/-- what never is asked -/
def noFn : List W → Store → Res W := fun _ _ => .fail
theorem fnA_no {P : Program} {w : World} {K : PySem.W.Frag} {mg : Str → Option Value} {base : Heap} {k n : Nat} {x : Str} {f : Addr} {fd : FuncData} {ps : List Str} (gl : mg x = some (.ref f)) (kp : PySem.W.keepIn K (.ref f) = true) (b : Binds K fd ps []) : FnA P w K mg base k n x [] noFn :=
  ⟨f, fd, ps, [], [], ⟨fun vs H Q E h => by
    obtain ⟨_, ρ, S, ws, _, _, q⟩ := h
    exact q.elim, fun A outer s H args us vs Q E hr env b r h => by
    obtain ⟨_, ρ, S, ws, _, _, q⟩ := h
    exact q.elim⟩, gl, kp, b, .nil, fun _ _ => .nil⟩
end Eng
namespace Eng
open PySem PySem.Spec PyProof.Rows L2
/-- int(x), texts too -/
def oIntX (xs : List W) (S : Store) : Res W := match xs with
  | [.str a] => if a.length ≤ 640 then match PySem.intText? a with
      | some n => .ok (.int n) S
      | none => .fail
    else .fail
  | _ => oInt xs S
theorem c_intX {X : Cx} : CallA X (.type "int") oIntX := by
  intro pins s σ H xs us Q I r q
  obtain ⟨ρ, S, ws, hr, rw_, q⟩ := q
  unfold oIntX at q
  split at q
  · obtain ⟨v, rfl, h⟩ := repL1 rw_
    cases h with
    | str hz =>
      split at q
      · rename_i hl
        split at q
        · rename_i n en
          exact call_int_str pins s σ H _ us Q I r ⟨_, n, rfl, en, hl, q.ok_now hr _ .int⟩
        · exact q.elim
      · exact q.elim
  · exact c_int pins s σ H xs us Q I r ⟨ρ, S, ws, hr, rw_, q⟩
/-- a def that lets no error out -/
theorem fnok0 {P : Program} {w : World} {K : PySem.W.Frag} {mg : Str → Option Value} {base : Heap} {k : Nat} {f : Addr} {fd : FuncData} {ps : List Str} {sp : Sp} (F : FnOk P w K mg base (L2.CX P w) k f fd ps sp) : FnOk P w K mg base L2.CX0 k f fd ps (fun vs H Q _ => sp vs H Q fun _ _ _ => False) :=
  ⟨fun vs H Q E h => F.len _ _ _ _ h, fun A outer s H args us vs Q E hr he hb hv hs => codeAny_mono (F.run A outer s H args us vs Q _ hr he hb hv hs) fun r s' q => by
    cases r with
    | error e =>
      obtain ⟨_, _, _, _, _, _, _, _, _, _, _, _, z⟩ := q
      exact z.elim
    | ok fl => cases fl <;> exact q⟩
theorem law_sp {K : PySem.W.Frag} {m : List W → Store → Res W} {H : Hp} {a : Addr} {ns : List Int} (hS : SqL K H a (ns.map V.int)) (h : ∃ S', m [.scr ns] [] = .ok (.bl true) S') : spA K 1 m [.ref a] H (fun v _ => v = .bl true) (fun _ _ _ => False) := by
  obtain ⟨S', e⟩ := h
  refine ⟨rfl, ⟨[], []⟩, [], [.scr ns], ⟨rfl, .nil, fun n o a q => by simp at q, fun a ha => (by cases ha), fun a ha => (by cases ha)⟩, .cons (.scr ?_) .nil, ?_⟩
  · rcases hS with h1 | h1
    · exact .inl ⟨h1, by constructor <;> simp⟩
    · exact .inr h1
  · rw [e]
    intro ρ' H' _ _ v r
    cases r
    rfl
end Eng
namespace Eng
open PySem PySem.Spec PyProof.Rows L2
/-! ### plain reasoning: what a run of the plain machine comes to -/
def HoE {α : Type} (r : Res α) (Q : α → Store → Prop) : Prop := match r with
  | .ok a S => Q a S
  | _ => False
/-- (a structure, so that nobody runs it by chance) -/
structure OkE {α : Type} (r : Res α) (Q : α → Store → Prop) : Prop where
  out : HoE r Q
structure Pd where
  nx : ASt → Store → Prop
  rt : W → Store → Prop := fun _ _ => False
  bk : ASt → Store → Prop := fun _ _ => False
  ct : ASt → Store → Prop := fun _ _ => False
def HoS (r : SRes) (D : Pd) : Prop := match r with
  | .next τ S => D.nx τ S
  | .ret w S => D.rt w S
  | .brk τ S => D.bk τ S
  | .cnt τ S => D.ct τ S
  | _ => False
structure OkS (r : SRes) (D : Pd) : Prop where
  out : HoS r D
section
variable {α β : Type} {Q : α → Store → Prop} {D : Pd} {τ : ASt} {S : Store}
theorem OkE.is {r : Res α} : OkE r Q = HoE r Q := propext ⟨OkE.out, OkE.mk⟩
theorem OkS.is {r : SRes} : OkS r D = HoS r D := propext ⟨OkS.out, OkS.mk⟩
theorem OkE.ok {a : α} : OkE (.ok a S) Q = Q a S := by rw [OkE.is]; rfl
theorem OkE.fail : OkE (.fail : Res α) Q = False := by rw [OkE.is]; rfl
theorem OkE.bnd {r : Res β} {k : β → Store → Res α} : OkE (r.bind k) Q = OkE r fun b S => OkE (k b S) Q := by
  cases r with
  | ok b S => rw [OkE.ok]; rfl
  | exc _ _ => rw [OkE.is, OkE.is]; rfl
  | fail => rw [OkE.is, OkE.is]; rfl
theorem OkE.nox {r : Res α} : OkE (noX r) Q = OkE r Q := by cases r <;> (rw [OkE.is, OkE.is]; rfl)
theorem OkE.toS {r : Res α} {k : α → Store → SRes} : OkS (r.toS τ k) D = OkE r fun b S => OkS (k b S) D := by
  cases r with
  | ok b S => rw [OkE.ok]; rfl
  | exc _ _ => rw [OkE.is, OkS.is]; rfl
  | fail => rw [OkE.is, OkS.is]; rfl
theorem OkE.imp {r : Res α} {Q' : α → Store → Prop} (h : OkE r Q) (i : ∀ a S, Q a S → Q' a S) : OkE r Q' := by
  cases r with
  | ok a S => exact ⟨i a S h.out⟩
  | exc _ _ => exact h.out.elim
  | fail => exact h.out.elim
theorem OkE.ex {r : Res α} (h : OkE r Q) : ∃ a S, r = .ok a S ∧ Q a S := by
  cases r with
  | ok a S => exact ⟨a, S, rfl, h.out⟩
  | exc _ _ => exact h.out.elim
  | fail => exact h.out.elim
theorem OkE.of {r : Res α} {a : α} (e : r = .ok a S) (h : Q a S) : OkE r Q := by rw [e]; exact ⟨h⟩
theorem OkS.imp {r : SRes} {D' : Pd} (h : OkS r D) (h1 : ∀ τ S, D.nx τ S → D'.nx τ S) (h2 : ∀ w S, D.rt w S → D'.rt w S) (h3 : ∀ τ S, D.bk τ S → D'.bk τ S) (h4 : ∀ τ S, D.ct τ S → D'.ct τ S) : OkS r D' := by
  cases r with
  | next τ S => exact ⟨h1 _ _ h.out⟩
  | ret w S => exact ⟨h2 _ _ h.out⟩
  | brk τ S => exact ⟨h3 _ _ h.out⟩
  | cnt τ S => exact ⟨h4 _ _ h.out⟩
  | exc _ _ _ => exact h.out.elim
  | fail => exact h.out.elim
theorem OkS.nxt : OkS (.next τ S) D = D.nx τ S := by rw [OkS.is]; rfl
theorem OkS.rtn {w : W} : OkS (.ret w S) D = D.rt w S := by rw [OkS.is]; rfl
theorem OkS.seq {f g : FS} : OkS (mSeq f g τ S) D = OkS (f τ S) { D with nx := fun τ S => OkS (g τ S) D } := by
  unfold mSeq
  cases f τ S with
  | next τ2 S2 => rw [OkS.nxt]; rfl
  | _ => rw [OkS.is, OkS.is]; rfl
theorem OkS.asg {f : FE} {g : FG} : OkS (mAsg f g τ S) D = OkE (f τ S) fun w S1 => OkE (g w τ S1) fun τ2 S2 => D.nx τ2 S2 := by
  unfold mAsg
  rw [OkE.toS]
  congr 1
  funext w S1
  rw [OkE.toS]
  congr 1
  funext τ2 S2
  rw [OkS.nxt]
theorem OkS.ret {f : FE} : OkS (mRet f τ S) D = OkE (f τ S) D.rt := by
  unfold mRet
  rw [OkE.toS]
  congr 1
  funext w S1
  rw [OkS.rtn]
theorem OkS.exp {f : FE} : OkS (mExpr f τ S) D = OkE (f τ S) fun _ S1 => D.nx τ S1 := by
  unfold mExpr
  rw [OkE.toS]
  congr 1
  funext w S1
  rw [OkS.nxt]
theorem OkS.ite {ft : FT} {f g : FS} : OkS (mIfS ft f g τ S) D = OkE (ft τ S) fun k S1 => if k = true then OkS (f τ S1) D else OkS (g τ S1) D := by
  unfold mIfS
  rw [OkE.toS]
  congr 1
  funext k S1
  cases k <;> rfl
theorem OkS.skip : OkS (mSkip τ S) D = D.nx τ S := by rw [OkS.is]; rfl
theorem OkS.brk : OkS (mBreak τ S) D = D.bk τ S := by rw [OkS.is]; rfl
theorem OkS.cnt : OkS (mCont τ S) D = D.ct τ S := by rw [OkS.is]; rfl
theorem OkS.retN : OkS (mRetN τ S) D = D.rt .non S := by rw [OkS.is]; rfl
theorem OkE.leave {Q : W → Store → Prop} {r : SRes} (h : OkS r { nx := fun _ S' => CutOk S S' ∧ Q .non (S'.take S.length), rt := fun w S' => w.isData = true ∧ CutOk S S' ∧ Q w (S'.take S.length) }) : OkE (leave S r) Q := by
  cases r with
  | next τ S' =>
    obtain ⟨h1, h2⟩ := h.out
    unfold Eng.leave
    simp only
    rw [if_pos h1]
    exact ⟨h2⟩
  | ret w S' =>
    obtain ⟨h0, h1, h2⟩ := h.out
    unfold Eng.leave
    simp only
    rw [if_pos (And.intro h0 h1)]
    exact ⟨h2⟩
  | brk _ _ => exact h.out.elim
  | cnt _ _ => exact h.out.elim
  | exc _ _ _ => exact h.out.elim
  | fail => exact h.out.elim
theorem OkE.keep {Q : W → Store → Prop} {r : SRes} (h : OkS r { nx := fun _ S' => Q .non S', rt := Q }) : OkE (keepS r) Q := by
  cases r with
  | next τ S' => exact ⟨h.out⟩
  | ret w S' => exact ⟨h.out⟩
  | brk _ _ => exact h.out.elim
  | cnt _ _ => exact h.out.elim
  | exc _ _ _ => exact h.out.elim
  | fail => exact h.out.elim
/-- a walk over items -/
theorem forGo_ok {xs : List W} {g : FG} {body : FS} (I : Nat → ASt → Store → Prop) (step : ∀ i w τ S, xs[i]? = some w → I i τ S → OkE (g w τ S) fun τ1 S1 => OkS (body τ1 S1) { nx := I (i + 1), ct := I (i + 1), bk := D.nx, rt := D.rt }) (fin : ∀ τ S, I xs.length τ S → D.nx τ S) :
    ∀ (m i : Nat) (τ : ASt) (S : Store), i + m = xs.length → I i τ S → OkS (forGo (.items xs) g body m i τ S) D
  | 0, i, τ, S, e, h => by
    have e : xs.length = i := by omega
    unfold forGo
    rw [if_pos (show Wk.stop (.items xs) i S = true from decide_eq_true e)]
    exact ⟨fin τ S (e ▸ h)⟩
  | m + 1, i, τ, S, e, h => by
    have hi : i < xs.length := by omega
    have e1 : Wk.item (.items xs) i S = some xs[i] := List.getElem?_eq_getElem hi
    unfold forGo
    rw [e1]
    simp only
    rw [OkE.toS]
    refine (step i xs[i] τ S (List.getElem?_eq_getElem hi) h).imp fun τ1 S1 q => ?_
    cases hb : body τ1 S1 with
    | next τ2 S2 => rw [hb] at q; exact forGo_ok I step fin m (i + 1) τ2 S2 (by omega) q.out
    | cnt τ2 S2 => rw [hb] at q; exact forGo_ok I step fin m (i + 1) τ2 S2 (by omega) q.out
    | brk τ2 S2 => rw [hb] at q; exact ⟨q.out⟩
    | ret w S2 => rw [hb] at q; exact ⟨q.out⟩
    | exc _ _ _ => rw [hb] at q; exact q.out.elim
    | fail => rw [hb] at q; exact q.out.elim
theorem OkS.for {fi : FI} {g : FG} {body : FS} : OkS (mFor fi g body τ S) D = OkE (fi τ S) fun k S1 => OkS (forGo k g body k.len 0 τ S1) D := OkE.toS
theorem for_ok {xs : List W} {g : FG} {body : FS} (I : Nat → ASt → Store → Prop) (h0 : I 0 τ S) (step : ∀ i w τ S, xs[i]? = some w → I i τ S → OkE (g w τ S) fun τ1 S1 => OkS (body τ1 S1) { nx := I (i + 1), ct := I (i + 1), bk := D.nx, rt := D.rt }) (fin : ∀ τ S, I xs.length τ S → D.nx τ S) :
    OkS (forGo (.items xs) g body (Wk.items xs).len 0 τ S) D := forGo_ok I step fin _ 0 τ S (by show 0 + xs.length = _; omega) h0
/-- a loop with a number that falls -/
theorem while_ok {ft : FT} {body : FS} (I : Nat → ASt → Store → Prop) (step : ∀ n τ S, I n τ S → OkE (ft τ S) fun k S1 => if k = true then ∃ n', n' < n ∧ OkS (body τ S1) { nx := I n', ct := I n', bk := D.nx, rt := D.rt } else D.nx τ S1) :
    ∀ (m n : Nat) (τ : ASt) (S : Store), n < m → I n τ S → OkS (whileGo ft body m τ S) D
  | 0, n, τ, S, h, _ => absurd h (Nat.not_lt_zero _)
  | m + 1, n, τ, S, h, hI => by
    unfold whileGo
    rw [OkE.toS]
    refine (step n τ S hI).imp fun k S1 q => ?_
    cases k with
    | false => exact ⟨q⟩
    | true =>
      rw [if_pos rfl] at q ⊢
      obtain ⟨n', hn, q⟩ := q
      have hm : n' < m := by omega
      cases hb : body τ S1 with
      | next τ2 S2 => rw [hb] at q; exact while_ok I step m n' τ2 S2 hm q.out
      | cnt τ2 S2 => rw [hb] at q; exact while_ok I step m n' τ2 S2 hm q.out
      | brk τ2 S2 => rw [hb] at q; exact ⟨q.out⟩
      | ret w S2 => rw [hb] at q; exact ⟨q.out⟩
      | exc _ _ _ => rw [hb] at q; exact q.out.elim
      | fail => rw [hb] at q; exact q.out.elim
theorem OkS.while {m : Nat} {ft : FT} {body : FS} : OkS (mWhile m ft body τ S) D = OkS (whileGo ft body m τ S) D := rfl
/-- a comprehension over items -/
theorem compGo_ok {xs : List W} {cg : W → ASt → Option ASt} {ft : FT} {fe : FE} {Q : List W → Store → Prop} (I : Nat → List W → Store → Prop)
    (step : ∀ i w acc S, xs[i]? = some w → I i acc S → ∃ τ1, cg w τ = some τ1 ∧ OkE (ft τ1 S) fun b S2 => if b = true then OkE (fe τ1 S2) fun y S3 => acc.length < sizeLine ∧ I (i + 1) (acc ++ [y]) S3 else I (i + 1) acc S2) (fin : ∀ acc S, I xs.length acc S → Q acc S) :
    ∀ (m i : Nat) (acc : List W) (S : Store), i + m = xs.length → I i acc S → OkE (compGo (.items xs) cg ft fe τ m i acc S) Q
  | 0, i, acc, S, e, h => by
    have e : xs.length = i := by omega
    unfold compGo
    rw [if_pos (show Wk.stop (.items xs) i S = true from decide_eq_true e)]
    exact ⟨fin acc S (e ▸ h)⟩
  | m + 1, i, acc, S, e, h => by
    have hi : i < xs.length := by omega
    have e1 : Wk.item (.items xs) i S = some xs[i] := List.getElem?_eq_getElem hi
    obtain ⟨τ1, e2, q⟩ := step i xs[i] acc S (List.getElem?_eq_getElem hi) h
    unfold compGo
    rw [e1]
    simp only
    rw [e2]
    simp only
    rw [OkE.bnd, OkE.nox]
    refine q.imp fun b S2 q2 => ?_
    cases b with
    | false => exact compGo_ok I step fin m (i + 1) acc S2 (by omega) q2
    | true =>
      rw [if_pos rfl] at q2 ⊢
      rw [OkE.bnd, OkE.nox]
      refine q2.imp fun y S3 q3 => ?_
      rw [if_pos q3.1]
      exact compGo_ok I step fin m (i + 1) (acc ++ [y]) S3 (by omega) q3.2
theorem OkE.comp {vs : List Nat} {fi : FI} {cg : W → ASt → Option ASt} {ft : FT} {fe : FE} {Q : W → Store → Prop} : OkE (mComp vs fi cg ft fe τ S) Q = OkE (fi τ S) fun k S1 => OkE (compGo k cg ft fe (wipeW τ vs) k.len 0 [] S1) fun ws S2 => Q (.lst ws) S2 := by
  unfold mComp
  rw [OkE.bnd]
  congr 1
  funext k S1
  rw [OkE.bnd]
  congr 1
  funext ws S2
  rw [OkE.ok]
theorem comp_ok {xs : List W} {cg : W → ASt → Option ASt} {ft : FT} {fe : FE} {Q : List W → Store → Prop} (I : Nat → List W → Store → Prop) (h0 : I 0 [] S)
    (step : ∀ i w acc S, xs[i]? = some w → I i acc S → ∃ τ1, cg w τ = some τ1 ∧ OkE (ft τ1 S) fun b S2 => if b = true then OkE (fe τ1 S2) fun y S3 => acc.length < sizeLine ∧ I (i + 1) (acc ++ [y]) S3 else I (i + 1) acc S2) (fin : ∀ acc S, I xs.length acc S → Q acc S) :
    OkE (compGo (.items xs) cg ft fe τ (Wk.items xs).len 0 [] S) Q := compGo_ok I step fin _ 0 [] S (by show 0 + xs.length = _; omega) h0
end
end Eng
namespace Eng
open PySem PySem.Spec PyProof.Rows L2
/-- a plain type told by values of the machine -/
structure Emb (α : Type) [DecidableEq α] where
  w : α → W
  d : α → PyData
  dat : ∀ a, Eng.dat (w a) = some (d a)
  eqv : ∀ a b, (d a).eqv (d b) = decide (a = b)
  n : Nat
  dep : ∀ a, (d a).depth ≤ n
  noref : ∀ a n, w a ≠ .ref n
def embS : Emb Str := ⟨.str, .str, fun _ => rfl, fun a b => by
  show (a == b) = decide (a = b)
  by_cases h : a = b
  · subst h; simp
  · simp [h], 0, fun _ => Nat.le_refl _, fun _ _ => by simp⟩
def embI : Emb Int := ⟨.int, .int, fun _ => rfl, fun a b => by
  show (a == b) = decide (a = b)
  by_cases h : a = b
  · subst h; simp
  · simp [h], 0, fun _ => Nat.le_refl _, fun _ _ => by simp⟩
section
variable {α β : Type} [DecidableEq α] [DecidableEq β] (e : Emb α) (f : Emb β)
theorem datL_map : ∀ l : List α, datL (l.map e.w) = some (l.map e.d)
  | [] => rfl
  | a :: l => by
    rw [List.map_cons, datL, e.dat, datL_map l]
    rfl
theorem eqvAll_map : ∀ l m : List α, PyData.eqvAll (l.map e.d) (m.map e.d) = decide (l = m)
  | [], [] => by simp [PyData.eqvAll]
  | [], b :: m => by simp [PyData.eqvAll]
  | a :: l, [] => by simp [PyData.eqvAll]
  | a :: l, b :: m => by
    rw [List.map_cons, List.map_cons, PyData.eqvAll, e.eqv, eqvAll_map l m]
    by_cases h1 : a = b <;> by_cases h2 : l = m <;> simp [h1, h2]
theorem depthAll_map : ∀ l : List α, PyData.depthAll (l.map e.d) ≤ e.n
  | [] => by simp [PyData.depthAll]
  | a :: l => by
    rw [List.map_cons, PyData.depthAll]
    exact Nat.max_le.mpr ⟨e.dep a, depthAll_map l⟩
def embT : Emb (List α) := ⟨fun l => .tup (l.map e.w), fun l => .tuple (l.map e.d), fun l => by rw [Eng.dat, datL_map]; rfl, fun l m => by rw [PyData.eqv]; exact eqvAll_map e l m, e.n + 1, fun l => by
  rw [PyData.depth]
  have := depthAll_map e l
  omega, fun _ _ => by simp⟩
def embL : Emb (List α) := ⟨fun l => .lst (l.map e.w), fun l => .list (l.map e.d), fun l => by rw [Eng.dat, datL_map]; rfl, fun l m => by rw [PyData.eqv]; exact eqvAll_map e l m, e.n + 1, fun l => by
  rw [PyData.depth]
  have := depthAll_map e l
  omega, fun _ _ => by simp⟩
def embP : Emb (α × β) := ⟨fun p => .tup [e.w p.1, f.w p.2], fun p => .tuple [e.d p.1, f.d p.2], fun p => by simp [Eng.dat, datL, e.dat, f.dat], fun p q => by
  rw [PyData.eqv, PyData.eqvAll, PyData.eqvAll, PyData.eqvAll, e.eqv, f.eqv]
  obtain ⟨p1, p2⟩ := p
  obtain ⟨q1, q2⟩ := q
  by_cases h1 : p1 = q1 <;> by_cases h2 : p2 = q2 <;> simp [h1, h2], max e.n f.n + 1, fun p => by
  have h1 := e.dep p.1
  have h2 := f.dep p.2
  simp only [PyData.depth, PyData.depthAll]
  omega, fun _ _ => by simp⟩
variable {S : Store}
theorem datS_emb (a : α) : datS S (e.w a) = some (e.d a) := by
  have h := e.noref a
  unfold datS
  split
  · rename_i n hn
    exact absurd hn (h n)
  · exact e.dat a
theorem eqS_emb (hn : e.n ≤ 64) (a b : α) : eqS S (e.w a) (e.w b) = some (decide (a = b)) := by
  unfold eqS
  rw [datS_emb, datS_emb]
  have h1 := e.dep a
  simp only
  rw [if_pos (by omega), e.eqv]
theorem oEq_emb (hn : e.n ≤ 64) (a b : α) : oEq (e.w a) (e.w b) S = .ok (.bl (decide (a = b))) S := by
  unfold oEq
  rw [eqS_emb e hn]
theorem oNe_emb (hn : e.n ≤ 64) (a b : α) : oNe (e.w a) (e.w b) S = .ok (.bl (!decide (a = b))) S := by
  unfold oNe
  rw [eqS_emb e hn]
theorem any_emb (a : α) (l : List α) : ((l.map e.d).any fun z => z.eqv (e.d a)) = decide (a ∈ l) := by
  rw [List.any_map]
  induction l with
  | nil => simp
  | cons b l ih =>
    rw [List.any_cons, ih]
    simp only [Function.comp_apply, e.eqv]
    by_cases h1 : a = b
    · subst h1; simp
    · have h3 : ¬ b = a := fun z => h1 z.symm
      simp [h1, h3]
theorem inS_tup (hn : e.n ≤ 64) (a : α) (l : List α) : inS S (e.w a) (.tup (l.map e.w)) = some (decide (a ∈ l)) := by
  have h1 := e.dep a
  have h2 : datS S (.tup (l.map e.w)) = some (.tuple (l.map e.d)) := datS_emb (embT e) l
  unfold inS
  simp only [lookS]
  rw [datS_emb, h2]
  simp only
  rw [if_pos (by omega), any_emb]
theorem inS_lst (hn : e.n ≤ 64) (a : α) (l : List α) : inS S (e.w a) (.lst (l.map e.w)) = some (decide (a ∈ l)) := by
  have h1 := e.dep a
  have h2 : datS S (.lst (l.map e.w)) = some (.list (l.map e.d)) := datS_emb (embL e) l
  unfold inS
  simp only [lookS]
  rw [datS_emb, h2]
  simp only
  rw [if_pos (by omega), any_emb]
theorem inS_ref (hn : e.n ≤ 64) (a : α) (l : List α) {n : Nat} (hS : S[n]? = some (.lst (l.map e.w))) : inS S (e.w a) (.ref n) = some (decide (a ∈ l)) := by
  have h1 := e.dep a
  have h2 : datS S (.ref n) = some (.list (l.map e.d)) := by
    unfold datS
    simp only
    rw [hS]
    simp only
    rw [datL_map]
    rfl
  unfold inS
  simp only [lookS]
  rw [hS]
  simp only
  rw [datS_emb, h2]
  simp only
  rw [if_pos (by omega), any_emb]
theorem datS_ref (l : List α) {n : Nat} (hS : S[n]? = some (.lst (l.map e.w))) : datS S (.ref n) = some (.list (l.map e.d)) := by
  unfold datS
  simp only
  rw [hS]
  simp only
  rw [datL_map]
  rfl
theorem eqS_ref (hn : e.n ≤ 63) (l m : List α) {n : Nat} (hS : S[n]? = some (.lst (l.map e.w))) : eqS S (.ref n) (.lst (m.map e.w)) = some (decide (l = m)) := by
  unfold eqS
  have h2 : datS S (.lst (m.map e.w)) = some (.list (m.map e.d)) := datS_emb (embL e) m
  have h1 : (PyData.list (l.map e.d)).depth ≤ e.n + 1 := (embL e).dep l
  have h4 : (PyData.list (l.map e.d)).eqv (.list (m.map e.d)) = decide (l = m) := (embL e).eqv l m
  rw [datS_ref e l hS, h2]
  simp only
  rw [if_pos (by omega), h4]
end
end Eng
namespace Eng
open PySem PySem.Spec PyProof.Rows L2
/-! ### plain reasoning, more -/
theorem OkE.eqv {α : Type} {r : Res α} {a : α} {S : Store} (h : OkE r fun b S' => b = a ∧ S' = S) : r = .ok a S := by
  cases r with
  | ok b S' => obtain ⟨h1, h2⟩ := h.out; rw [h1, h2]
  | exc _ _ => exact h.out.elim
  | fail => exact h.out.elim
theorem noX_okk {α : Type} {a : α} {S : Store} : noX (.ok a S : Res α) = .ok a S := rfl
mutual
theorem data_of_dat : ∀ {w : W} {d : PyData}, dat w = some d → w.isData = true
  | .non, _, _ => rfl
  | .bl _, _, _ => rfl
  | .int _, _, _ => rfl
  | .str _, _, _ => rfl
  | .scr _, _, _ => rfl
  | .ref _, _, h => by cases h
  | .tup xs, _, h => by
    rw [dat] at h
    cases e : datL xs with
    | none => rw [e] at h; cases h
    | some ds => rw [W.isData]; exact data_of_datL e
  | .ktup xs, _, h => by
    rw [dat] at h
    cases e : datL xs with
    | none => rw [e] at h; cases h
    | some ds => rw [W.isData]; exact data_of_datL e
  | .lst xs, _, h => by
    rw [dat] at h
    cases e : datL xs with
    | none => rw [e] at h; cases h
    | some ds => rw [W.isData]; exact data_of_datL e
theorem data_of_datL : ∀ {ws : List W} {d : List PyData}, datL ws = some d → allData ws = true
  | [], _, _ => rfl
  | x :: xs, _, h => by
    rw [datL] at h
    cases e : dat x with
    | none => rw [e] at h; cases h
    | some d =>
      cases e2 : datL xs with
      | none => rw [e, e2] at h; cases h
      | some ds => rw [allData, data_of_dat e, data_of_datL e2]; rfl
end
section
variable {α β : Type} [DecidableEq α] [DecidableEq β] (e : Emb α)
theorem Emb.data (a : α) : (e.w a).isData = true := data_of_dat (e.dat a)
theorem Emb.datas (l : List α) : allData (l.map e.w) = true := data_of_datL (datL_map e l)
end
/-! stores that grow behind -/
section
variable {S l m : Store} {o x : Ob} {k : Nat}
theorem st_get (k : Nat) : (S ++ l)[S.length + k]? = l[k]? := by rw [List.getElem?_append_right (by omega)]; congr 1; omega
theorem st_get0 : (S ++ l)[S.length]? = l[0]? := by rw [List.getElem?_append_right (by omega)]; congr 1; omega
theorem st_set (k : Nat) : (S ++ l).set (S.length + k) x = S ++ l.set k x := by
  rw [List.set_append_right _ _ (by omega)]; congr 2; omega
theorem st_set0 : (S ++ l).set S.length x = S ++ l.set 0 x := by
  rw [List.set_append_right _ _ (by omega)]; congr 2; omega
theorem st_take : (S ++ l).take S.length = S := by simp
theorem st_len (l : Store) : (S ++ l).length = S.length + l.length := List.length_append
theorem CutOk.cons {S S' : Store} {o o' : Ob} (h : o'.isData = true ∨ o' = o) (hr : CutOk S S') : CutOk (o :: S) (o' :: S') := fun n hn => by
  cases n with
  | zero => 
    rcases h with h | h
    · exact .inr ⟨o', rfl, h⟩
    · subst h; exact .inl rfl
  | succ n => exact hr n (by simpa using hn)
theorem CutOk.nil {S' : Store} : CutOk [] S' := fun n hn => absurd hn (Nat.not_lt_zero _)
end
/-! walks over told items -/
section
variable {α : Type} {D : Pd} {τ : ASt} {S : Store}
theorem getElem?_split {l : List α} {i : Nat} {x : α} (h : l[i]? = some x) : l = l.take i ++ x :: l.drop (i + 1) := by
  obtain ⟨hi, e⟩ := List.getElem?_eq_some_iff.mp h
  rw [← e, ← List.drop_eq_getElem_cons hi, List.take_append_drop]
/-- a walk: what holds behind a beginning of the list -/
theorem for_map {l : List α} {f : α → W} {g : FG} {body : FS} (I : List α → ASt → Store → Prop) (h0 : I [] τ S)
    (step : ∀ pre x post τ S, l = pre ++ x :: post → I pre τ S → OkE (g (f x) τ S) fun τ1 S1 => OkS (body τ1 S1) { nx := I (pre ++ [x]), ct := I (pre ++ [x]), bk := D.nx, rt := D.rt })
    (fin : ∀ τ S, I l τ S → D.nx τ S) : OkS (forGo (.items (l.map f)) g body (Wk.items (l.map f)).len 0 τ S) D := by
  refine for_ok (fun i τ S => I (l.take i) τ S) (by simpa using h0) (fun i w τ S hi h => ?_) fun τ S h => ?_
  · rw [List.getElem?_map, Option.map_eq_some_iff] at hi
    obtain ⟨x, hx, rfl⟩ := hi
    have e := getElem?_split hx
    have e2 : l.take (i + 1) = l.take i ++ [x] := by rw [List.take_add_one, hx]; rfl
    simp only [e2]
    exact step _ x _ τ S e h
  · rw [List.length_map, List.take_length] at h
    exact fin τ S h
/-- a walk over a list of the store that stays -/
theorem forGo_ref {n : Nat} {xs : List W} {g : FG} {body : FS} (I : Nat → ASt → Store → Prop) (hS : ∀ i τ S, I i τ S → S[n]? = some (.lst xs)) (step : ∀ i w τ S, xs[i]? = some w → I i τ S → OkE (g w τ S) fun τ1 S1 => OkS (body τ1 S1) { nx := I (i + 1), ct := I (i + 1), bk := D.nx, rt := D.rt }) (fin : ∀ τ S, I xs.length τ S → D.nx τ S) :
    ∀ (m i : Nat) (τ : ASt) (S : Store), i + m = xs.length → I i τ S → OkS (forGo (.ref n xs.length) g body m i τ S) D
  | 0, i, τ, S, e, h => by
    have e : xs.length = i := by omega
    unfold forGo
    rw [if_pos (by show Wk.stop (.ref n xs.length) i S = true; unfold Wk.stop; simp only; rw [hS _ _ _ h]; simp [e])]
    exact ⟨fin τ S (e ▸ h)⟩
  | m + 1, i, τ, S, e, h => by
    have hi : i < xs.length := by omega
    have e1 : Wk.item (.ref n xs.length) i S = some xs[i] := by unfold Wk.item; simp only; rw [hS _ _ _ h]; exact List.getElem?_eq_getElem hi
    unfold forGo
    rw [e1]
    simp only
    rw [OkE.toS]
    refine (step i xs[i] τ S (List.getElem?_eq_getElem hi) h).imp fun τ1 S1 q => ?_
    cases hb : body τ1 S1 with
    | next τ2 S2 => rw [hb] at q; exact forGo_ref I hS step fin m (i + 1) τ2 S2 (by omega) q.out
    | cnt τ2 S2 => rw [hb] at q; exact forGo_ref I hS step fin m (i + 1) τ2 S2 (by omega) q.out
    | brk τ2 S2 => rw [hb] at q; exact ⟨q.out⟩
    | ret w S2 => rw [hb] at q; exact ⟨q.out⟩
    | exc _ _ _ => rw [hb] at q; exact q.out.elim
    | fail => rw [hb] at q; exact q.out.elim
/-- a comprehension: what holds behind a beginning of the list -/
theorem comp_mapI {l : List α} {f : α → W} {cg : W → ASt → Option ASt} {ft : FT} {fe : FE} {Q : List W → Store → Prop} (I : List α → List W → Store → Prop) (h0 : I [] [] S)
    (step : ∀ pre x post acc S, l = pre ++ x :: post → I pre acc S → ∃ τ1, cg (f x) τ = some τ1 ∧ OkE (ft τ1 S) fun b S2 => if b = true then OkE (fe τ1 S2) fun y S3 => acc.length < sizeLine ∧ I (pre ++ [x]) (acc ++ [y]) S3 else I (pre ++ [x]) acc S2) (fin : ∀ acc S, I l acc S → Q acc S) :
    OkE (compGo (.items (l.map f)) cg ft fe τ (Wk.items (l.map f)).len 0 [] S) Q := by
  refine comp_ok (fun i acc S => I (l.take i) acc S) (by simpa using h0) (fun i w acc S hi h => ?_) fun acc S h => ?_
  · rw [List.getElem?_map, Option.map_eq_some_iff] at hi
    obtain ⟨x, hx, rfl⟩ := hi
    have e := getElem?_split hx
    have e2 : l.take (i + 1) = l.take i ++ [x] := by rw [List.take_add_one, hx]; rfl
    simp only [e2]
    exact step _ x _ acc S e h
  · rw [List.length_map, List.take_length] at h
    exact fin acc S h
/-- a comprehension that changes nothing -/
theorem comp_pure {l : List α} {f : α → W} {cg : W → ASt → Option ASt} {ft : FT} {fe : FE} {Q : List W → Store → Prop} (p : α → Bool) (h : α → W) (hl : l.length ≤ sizeLine)
    (step : ∀ x ∈ l, ∃ τ1, cg (f x) τ = some τ1 ∧ ft τ1 S = .ok (p x) S ∧ (p x = true → fe τ1 S = .ok (h x) S)) (fin : Q ((l.filter p).map h) S) :
    OkE (compGo (.items (l.map f)) cg ft fe τ (Wk.items (l.map f)).len 0 [] S) Q := by
  refine comp_mapI (fun pre acc S' => S' = S ∧ acc = (pre.filter p).map h) ⟨rfl, rfl⟩ (fun pre x post acc S' e ⟨h1, h2⟩ => ?_) fun acc S' ⟨h1, h2⟩ => ?_
  · subst h1
    obtain ⟨τ1, e1, e2, e3⟩ := step x (by rw [e]; simp)
    refine ⟨τ1, e1, ?_⟩
    rw [e2, OkE.ok]
    by_cases hp : p x = true
    · rw [if_pos hp, e3 hp, OkE.ok]
      refine ⟨?_, rfl, ?_⟩
      · rw [h2, List.length_map]
        have h3 := List.length_filter_le p pre
        rw [e] at hl
        simp at hl
        omega
      · rw [h2, List.filter_append, List.filter_cons, if_pos hp]
        simp
    · rw [if_neg hp]
      refine ⟨rfl, ?_⟩
      rw [h2, List.filter_append, List.filter_cons, if_neg hp]
      simp
  · subst h1 h2
    exact fin
theorem comp_pure_eq {l : List α} {f : α → W} {cg : W → ASt → Option ASt} {ft : FT} {fe : FE} (p : α → Bool) (h : α → W) (hl : l.length ≤ sizeLine)
    (step : ∀ x ∈ l, ∃ τ1, cg (f x) τ = some τ1 ∧ ft τ1 S = .ok (p x) S ∧ (p x = true → fe τ1 S = .ok (h x) S)) :
    compGo (.items (l.map f)) cg ft fe τ (Wk.items (l.map f)).len 0 [] S = .ok ((l.filter p).map h) S := (comp_pure (Q := fun ws S' => ws = (l.filter p).map h ∧ S' = S) p h hl step ⟨rfl, rfl⟩).eqv
theorem comp_ref {n : Nat} {xs : List W} {cg : W → ASt → Option ASt} {ft : FT} {fe : FE} (hS : S[n]? = some (.lst xs)) (step : ∀ x ∈ xs, ∃ τ1, cg x τ = some τ1 ∧ ∃ b, ft τ1 S = .ok b S ∧ (b = true → ∃ y, fe τ1 S = .ok y S)) :
    ∀ (m i : Nat) (acc : List W), i + m = xs.length → compGo (.ref n xs.length) cg ft fe τ m i acc S = compGo (.items xs) cg ft fe τ m i acc S
  | 0, i, acc, e => by
    have e : xs.length = i := by omega
    unfold compGo
    have h1 : Wk.stop (.ref n xs.length) i S = true := by unfold Wk.stop; simp only; rw [hS]; simp [e]
    have h2 : Wk.stop (.items xs) i S = true := decide_eq_true e
    rw [h1, h2]
  | m + 1, i, acc, e => by
    have hi : i < xs.length := by omega
    have e1 : Wk.item (.ref n xs.length) i S = some xs[i] := by unfold Wk.item; simp only; rw [hS]; exact List.getElem?_eq_getElem hi
    have e2 : Wk.item (.items xs) i S = some xs[i] := List.getElem?_eq_getElem hi
    obtain ⟨τ1, q1, b, q2, q3⟩ := step xs[i] (List.getElem_mem hi)
    unfold compGo
    rw [e1, e2]
    simp only
    rw [q1]
    simp only
    rw [q2, noX_okk, Res.bind_ok, Res.bind_ok]
    cases b with
    | false =>
      rw [if_neg (by decide), if_neg (by decide)]
      exact comp_ref hS step m (i + 1) acc (by omega)
    | true =>
      obtain ⟨y, q3⟩ := q3 rfl
      rw [if_pos rfl, if_pos rfl, q3, noX_okk, Res.bind_ok, Res.bind_ok, comp_ref hS step m (i + 1) (acc ++ [y]) (by omega)]
theorem comp_pure_ref {n : Nat} {l : List α} {f : α → W} {cg : W → ASt → Option ASt} {ft : FT} {fe : FE} {Q : List W → Store → Prop} (hS : S[n]? = some (.lst (l.map f))) (p : α → Bool) (h : α → W) (hl : l.length ≤ sizeLine)
    (step : ∀ x ∈ l, ∃ τ1, cg (f x) τ = some τ1 ∧ ft τ1 S = .ok (p x) S ∧ (p x = true → fe τ1 S = .ok (h x) S)) (fin : Q ((l.filter p).map h) S) :
    OkE (compGo (.ref n (l.map f).length) cg ft fe τ (Wk.ref n (l.map f).length).len 0 [] S) Q := by
  rw [show compGo (.ref n (l.map f).length) cg ft fe τ (Wk.ref n (l.map f).length).len 0 [] S = compGo (.items (l.map f)) cg ft fe τ (Wk.items (l.map f)).len 0 [] S from comp_ref hS (fun x hx => by
    obtain ⟨y, hy, rfl⟩ := List.mem_map.mp hx
    obtain ⟨τ1, h1, h2, h3⟩ := step y hy
    exact ⟨τ1, h1, p y, h2, fun q => ⟨h y, h3 q⟩⟩) (l.map f).length 0 [] (by omega)]
  exact comp_pure p h hl step fin
end
end Eng
namespace Eng
open PySem PySem.Spec PyProof.Rows L2
/-! ### searches (no program in sight) -/
section
variable {ρ : Type} (succ : ρ → List ρ) (r0 : ρ)
inductive Reach : ρ → Prop
  | refl : Reach r0
  | step {r s : ρ} : Reach r → s ∈ succ r → Reach s
variable {succ r0}
theorem Reach.closed {l : List ρ} (h0 : r0 ∈ l) (hc : ∀ r ∈ l, ∀ s ∈ succ r, s ∈ l) {r : ρ} (h : Reach succ r0 r) : r ∈ l := by
  induction h with
  | refl => exact h0
  | step _ hs ih => exact hc _ ih _ hs
variable (succ r0)
structure Full (l : List ρ) : Prop where
  nd : l.Nodup
  all : ∀ r, r ∈ l ↔ Reach succ r0 r
variable {succ r0}
theorem Full.perm [DecidableEq ρ] {l m : List ρ} (a : Full succ r0 l) (b : Full succ r0 m) : l.Perm m :=
  (List.perm_ext_iff_of_nodup a.nd b.nd).mpr fun r => (a.all r).trans (b.all r).symm
/-- what waits is known -/
structure SA (wt : ρ → Nat) (B : Nat) (succ : ρ → List ρ) (r0 : ρ) (known waiting done : List ρ) : Prop where
  nd : known.Nodup
  perm : known.Perm (waiting ++ done)
  start : r0 ∈ known
  reach : ∀ r ∈ known, Reach succ r0 r
  closed : ∀ r ∈ done, ∀ s ∈ succ r, s ∈ known
  bound : done.length + (waiting.map wt).sum ≤ B
theorem SA.fin {wt : ρ → Nat} {B : Nat} {known done : List ρ} (h : SA wt B succ r0 known [] done) : Full succ r0 done := by
  have p : known.Perm done := by simpa using h.perm
  have hs : r0 ∈ done := p.mem_iff.mp h.start
  refine ⟨p.nodup_iff.mp h.nd, fun r => ⟨fun hr => h.reach r (p.mem_iff.mpr hr), fun hr => hr.closed hs fun r hr s hs => p.mem_iff.mp (h.closed r hr s hs)⟩⟩
theorem sum_sub {α : Type} (wt : α → Nat) {l m : List α} (h : List.Sublist l m) : (l.map wt).sum ≤ (m.map wt).sum := by
  induction h with
  | slnil => simp
  | cons a _ ih =>
    simp only [List.map_cons, List.sum_cons]
    omega
  | cons_cons a _ ih =>
    simp only [List.map_cons, List.sum_cons]
    omega
theorem SA.step {wt : ρ → Nat} {B : Nat} {known ws done new : List ρ} {r : ρ} (h : SA wt B succ r0 known (ws ++ [r]) done) (hw : ((succ r).map wt).sum < wt r) (h1 : List.Sublist new (succ r)) (h2 : ∀ s ∈ succ r, s ∈ known ++ new) (h3 : (known ++ new).Nodup) :
    SA wt B succ r0 (known ++ new) (ws ++ new) (done ++ [r]) := by
  have hr : Reach succ r0 r := h.reach r (h.perm.mem_iff.mpr (by simp))
  refine ⟨h3, ?_, List.mem_append_left _ h.start, fun s hs => ?_, fun t ht s hs => ?_, ?_⟩
  · have p := h.perm.append_right new
    refine p.trans ?_
    simp only [List.append_assoc]
    refine List.Perm.append_left ws ?_
    rw [← List.append_assoc]
    refine List.perm_append_comm.trans ?_
    refine List.Perm.append_left new ?_
    exact List.perm_append_comm
  · rcases List.mem_append.mp hs with hs | hs
    · exact h.reach s hs
    · exact hr.step (h1.subset hs)
  · rcases List.mem_append.mp ht with ht | ht
    · exact List.mem_append_left _ (h.closed t ht s hs)
    · have : t = r := by simpa using ht
      subst this
      exact h2 s hs
  · have hb := h.bound
    have hs : (new.map wt).sum ≤ ((succ r).map wt).sum := sum_sub wt h1
    simp only [List.map_append, List.sum_append, List.map_cons, List.map_nil, List.sum_cons, List.sum_nil, List.length_append, List.length_cons, List.length_nil] at hb ⊢
    omega
/-- what waits may be seen before -/
structure SB (wt : ρ → Nat) (B : Nat) (succ : ρ → List ρ) (r0 : ρ) (seen waiting : List ρ) : Prop where
  nd : seen.Nodup
  start : r0 ∈ seen ∨ r0 ∈ waiting
  reach : ∀ r, r ∈ seen ∨ r ∈ waiting → Reach succ r0 r
  closed : ∀ r ∈ seen, ∀ s ∈ succ r, s ∈ seen ∨ s ∈ waiting
  bound : seen.length + (waiting.map wt).sum ≤ B
theorem SB.fin {wt : ρ → Nat} {B : Nat} {seen : List ρ} (h : SB wt B succ r0 seen []) : Full succ r0 seen := by
  have hs : r0 ∈ seen := h.start.elim id fun z => by cases z
  refine ⟨h.nd, fun r => ⟨fun hr => h.reach r (.inl hr), fun hr => hr.closed hs fun r hr s hs => (h.closed r hr s hs).elim id fun z => by cases z⟩⟩
theorem SB.old {wt : ρ → Nat} {B : Nat} {seen ws : List ρ} {r : ρ} (h : SB wt B succ r0 seen (ws ++ [r])) (hr : r ∈ seen) : SB wt B succ r0 seen ws := by
  refine ⟨h.nd, ?_, fun s hs => h.reach s (hs.imp id fun z => List.mem_append_left _ z), fun t ht s hs => ?_, ?_⟩
  · rcases h.start with z | z
    · exact .inl z
    · rcases List.mem_append.mp z with z | z
      · exact .inr z
      · have : r0 = r := by simpa using z
        exact .inl (this ▸ hr)
  · rcases h.closed t ht s hs with z | z
    · exact .inl z
    · rcases List.mem_append.mp z with z | z
      · exact .inr z
      · have : s = r := by simpa using z
        exact .inl (this ▸ hr)
  · have := h.bound
    simp only [List.map_append, List.sum_append, List.map_cons, List.map_nil, List.sum_cons, List.sum_nil] at this
    omega
theorem SB.new {wt : ρ → Nat} {B : Nat} {seen ws : List ρ} {r : ρ} (h : SB wt B succ r0 seen (ws ++ [r])) (hr : r ∉ seen) (hw : ((succ r).map wt).sum < wt r) : SB wt B succ r0 (seen ++ [r]) (ws ++ succ r) := by
  have hR : Reach succ r0 r := h.reach r (.inr (by simp))
  refine ⟨?_, ?_, fun s hs => ?_, fun t ht s hs => ?_, ?_⟩
  · rw [List.nodup_append]
    refine ⟨h.nd, by simp, fun a ha b hb => ?_⟩
    have : b = r := by simpa using hb
    subst this
    exact fun z => hr (z ▸ ha)
  · rcases h.start with z | z
    · exact .inl (List.mem_append_left _ z)
    · rcases List.mem_append.mp z with z | z
      · exact .inr (List.mem_append_left _ z)
      · exact .inl (List.mem_append_right _ z)
  · rcases hs with hs | hs
    · rcases List.mem_append.mp hs with z | z
      · exact h.reach s (.inl z)
      · have : s = r := by simpa using z
        exact this ▸ hR
    · rcases List.mem_append.mp hs with z | z
      · exact h.reach s (.inr (List.mem_append_left _ z))
      · exact hR.step z
  · rcases List.mem_append.mp ht with z | z
    · rcases h.closed t z s hs with y | y
      · exact .inl (List.mem_append_left _ y)
      · rcases List.mem_append.mp y with y | y
        · exact .inr (List.mem_append_left _ y)
        · exact .inl (List.mem_append_right _ y)
    · have : t = r := by simpa using z
      subst this
      exact .inr (List.mem_append_right _ hs)
  · have := h.bound
    simp only [List.map_append, List.sum_append, List.map_cons, List.map_nil, List.sum_cons, List.sum_nil, List.length_append, List.length_cons, List.length_nil] at this ⊢
    omega
end
/-! ### dicts with keys of one kind -/
section
variable {κ α : Type} [DecidableEq κ] [DecidableEq α] {k : α → κ} (inj : ∀ a b, k a = k b → a = b)
include inj
theorem valW_map {l : List α} {v : α → W} (hv : l.Nodup) (a : α) : valW (l.map fun x => (k x, v x)) (k a) = if a ∈ l then some (v a) else none := by
  unfold valW
  induction l with
  | nil => simp
  | cons b l ih =>
    rw [List.map_cons, List.find?_cons]
    by_cases h : b = a
    · subst h
      simp
    · have h1 : ¬ k b = k a := fun z => h (inj _ _ z)
      have h2 : ¬ a = b := fun z => h z.symm
      simp only [h1, decide_false, List.mem_cons, h2, false_or]
      exact ih (List.nodup_cons.mp hv).2
theorem valW_const {l : List α} {v : W} (a : α) : valW (l.map fun x => (k x, v)) (k a) = if a ∈ l then some v else none := by
  unfold valW
  induction l with
  | nil => simp
  | cons b l ih =>
    rw [List.map_cons, List.find?_cons]
    by_cases h : b = a
    · subst h
      simp
    · have h1 : ¬ k b = k a := fun z => h (inj _ _ z)
      have h2 : ¬ a = b := fun z => h z.symm
      simp only [h1, decide_false, List.mem_cons, h2, false_or]
      exact ih
theorem any_key {l : List α} {v : α → W} (a : α) : ((l.map fun x => (k x, v x)).any fun kv => decide (kv.1 = k a)) = decide (a ∈ l) := by
  induction l with
  | nil => simp
  | cons b l ih =>
    rw [List.map_cons, List.any_cons, ih]
    by_cases h : b = a
    · subst h; simp
    · have h1 : ¬ k b = k a := fun z => h (inj _ _ z)
      have h2 : ¬ a = b := fun z => h z.symm
      simp [h1, h2]
theorem putW_new {l : List α} {v : W} {a : α} (h : a ∉ l) : putW (l.map fun x => (k x, v)) (k a) v = (l ++ [a]).map fun x => (k x, v) := by
  unfold putW
  rw [any_key (v := fun _ => v) inj, if_neg (by simpa using h), List.map_append]
  rfl
theorem putW_old {l : List α} {v : W} {a : α} (h : a ∈ l) : putW (l.map fun x => (k x, v)) (k a) v = l.map fun x => (k x, v) := by
  unfold putW
  rw [any_key (v := fun _ => v) inj, if_pos (by simpa using h), List.map_map]
  apply List.map_congr_left
  intro x _
  simp only [Function.comp_apply]
  split <;> rfl
end
theorem keyS_inj : ∀ a b : Str, (Sum.inr a : Key) = Sum.inr b → a = b := fun a b h => by cases h; rfl
theorem keysW_strs : ∀ r : List Str, keysW (r.map W.str) = some (r.map Sum.inr)
  | [] => rfl
  | x :: r => by rw [List.map_cons, keysW, keysW_strs r]; rfl
theorem keysR_inj : ∀ a b : List Str, a.map (Sum.inr : Str → Key) = b.map Sum.inr → a = b := fun a b h => (List.map_inj_right (fun x y e => by cases e; rfl)).mp h
theorem strsW_of : ∀ l : List Str, strsW (l.map W.str) = some l
  | [] => rfl
  | x :: l => by rw [List.map_cons, strsW, strsW_of l]; rfl
theorem rowsW_of : ∀ l : List (List Str), rowsW (l.map rowW) = some l
  | [] => rfl
  | x :: l => by rw [List.map_cons]; show rowsW (W.tup (x.map W.str) :: _) = _; rw [rowsW, strsW_of, rowsW_of l]; rfl
end Eng
namespace Eng
open PySem PySem.Spec PyProof.Rows L2
/-! ### operators at told values -/
section
variable {S : Store} {xs ys : List W} {x y : W} {i j : Int} {k n : Nat} {a b : Str}
theorem atI_n {α : Type} {xs : List α} {k : Nat} : atI xs (k : Int) = xs[k]? := by
  unfold atI ixN
  rw [if_pos (by omega)]
  by_cases h : k < xs.length
  · rw [if_pos (by omega)]
    simp
  · rw [if_neg (by omega), List.getElem?_eq_none (by omega)]
    rfl
theorem atI_pos {α : Type} {xs : List α} {i : Int} (h : 0 ≤ i) : atI xs i = xs[i.toNat]? := by
  obtain ⟨k, rfl⟩ := Int.eq_ofNat_of_zero_le h
  rw [atI_n]
  rfl
theorem o_addI : oAdd (.int i) (.int j) S = .ok (.int (i + j)) S := rfl
theorem o_addS (h : a.length + b.length ≤ sizeLine) : oAdd (.str a) (.str b) S = .ok (.str (a ++ b)) S := by unfold oAdd; simp only; rw [if_pos h]
theorem o_addT (h : xs.length + ys.length ≤ sizeLine) : oAdd (.tup xs) (.tup ys) S = .ok (.tup (xs ++ ys)) S := by unfold oAdd; simp only; rw [if_pos h]
theorem o_addL (h : xs.length + ys.length ≤ sizeLine) : oAdd (.lst xs) (.lst ys) S = .ok (.lst (xs ++ ys)) S := by unfold oAdd; simp only [seqM]; rw [if_pos h]
theorem o_addRL (hS : S[n]? = some (.lst xs)) (h : xs.length + ys.length ≤ sizeLine) : oAdd (.ref n) (.lst ys) S = .ok (.lst (xs ++ ys)) S := by unfold oAdd; simp only [seqM]; rw [hS]; simp only; rw [if_pos h]
theorem o_ixT (h : atI xs i = some x) : oIx (.tup xs) (.int i) S = .ok x S := by unfold oIx; simp only [lookS, seqL, seqT]; rw [h]
theorem o_ixL (h : atI xs i = some x) : oIx (.lst xs) (.int i) S = .ok x S := by unfold oIx; simp only [lookS, seqL, seqT]; rw [h]
theorem o_ixSc {ns : List Int} {m : Int} (h : atI ns i = some m) : oIx (.scr ns) (.int i) S = .ok (.int m) S := by
  unfold oIx
  simp only [lookS, seqL, seqT]
  have : atI (ns.map W.int) i = some (.int m) := by
    unfold atI at h ⊢
    rw [List.length_map]
    cases e : ixN ns.length i with
    | none => rw [e] at h; cases h
    | some j =>
      rw [e] at h
      simp only [Option.bind_some] at h ⊢
      rw [List.getElem?_map, h]
      rfl
  rw [this]
theorem o_ixR (hS : S[n]? = some (.lst xs)) (h : atI xs i = some x) : oIx (.ref n) (.int i) S = .ok x S := by unfold oIx; simp only [lookS, seqL, seqT]; rw [hS]; simp only; rw [h]
theorem o_ixS {c : Nat} (h : atI a.cps.toList i = some c) : oIx (.str a) (.int i) S = .ok (.str ⟨#[c]⟩) S := by unfold oIx; simp only [lookS]; rw [h]
theorem o_ixT0 : oIx (.tup (x :: xs)) (.int 0) S = .ok x S := o_ixT (atI_n (k := 0))
theorem o_ixT1 : oIx (.tup (y :: x :: xs)) (.int 1) S = .ok x S := o_ixT (atI_n (k := 1))
theorem o_ixT2 {z : W} : oIx (.tup (y :: z :: x :: xs)) (.int 2) S = .ok x S := o_ixT (atI_n (k := 2))
theorem o_ixL0 : oIx (.lst (x :: xs)) (.int 0) S = .ok x S := o_ixL (atI_n (k := 0))
theorem o_ixL1 : oIx (.lst (y :: x :: xs)) (.int 1) S = .ok x S := o_ixL (atI_n (k := 1))
theorem cutW_to : cutW xs none (some (k : Int)) = xs.take k := by
  unfold cutW
  rw [HT.sIx_nat, HT.sIx_none]
  simp only [List.drop_zero, Nat.sub_zero]
  by_cases h : k ≤ xs.length
  · rw [Nat.min_eq_left h]
  · rw [Nat.min_eq_right (by omega), List.take_length, List.take_of_length_le (by omega)]
theorem cutW_from : cutW xs (some (k : Int)) none = xs.drop k := by
  unfold cutW
  rw [HT.sIx_nat, HT.sIx_none]
  by_cases h : k ≤ xs.length
  · rw [Nat.min_eq_left h, List.take_of_length_le (by simp)]
  · rw [Nat.min_eq_right (by omega), List.drop_length, List.take_nil, List.drop_of_length_le (by omega)]
theorem cutW_fromI (h : 0 ≤ i) : cutW xs (some i) none = xs.drop i.toNat := by
  obtain ⟨k, rfl⟩ := Int.eq_ofNat_of_zero_le h
  rw [cutW_from]
  rfl
theorem cutW_toI (h : 0 ≤ i) : cutW xs none (some i) = xs.take i.toNat := by
  obtain ⟨k, rfl⟩ := Int.eq_ofNat_of_zero_le h
  rw [cutW_to]
  rfl
theorem o_slT {lo hi : Option Int} : oSl (.tup xs) lo hi S = .ok (.tup (cutW xs lo hi)) S := rfl
theorem o_slS {lo hi : Option Int} : oSl (.str a) lo hi S = .ok (.str (cutS a lo hi)) S := rfl
theorem o_slL {lo hi : Option Int} : oSl (.lst xs) lo hi S = .ok (.lst (cutW xs lo hi)) S := rfl
theorem o_slR {lo hi : Option Int} (hS : S[n]? = some (.lst xs)) : oSl (.ref n) lo hi S = .ok (.lst (cutW xs lo hi)) S := by unfold oSl; simp only [seqL]; rw [hS]
theorem o_lenS : oLen [.str a] S = .ok (.int a.length) S := rfl
theorem o_lenT : oLen [.tup xs] S = .ok (.int xs.length) S := rfl
theorem o_lenL : oLen [.lst xs] S = .ok (.int xs.length) S := rfl
theorem o_lenSc {ns : List Int} : oLen [.scr ns] S = .ok (.int ns.length) S := by unfold oLen; simp only [seqT, seqL, List.length_map]
theorem o_lenR (hS : S[n]? = some (.lst xs)) : oLen [.ref n] S = .ok (.int xs.length) S := by unfold oLen; simp only; rw [hS]
theorem o_tupS : oTuple [.str a] S = .ok (.tup (signsW a)) S := rfl
theorem o_tupL : oTuple [.lst xs] S = .ok (.tup xs) S := rfl
theorem o_tupT : oTuple [.tup xs] S = .ok (.tup xs) S := rfl
theorem o_tupR (hS : S[n]? = some (.lst xs)) : oTuple [.ref n] S = .ok (.tup xs) S := by unfold oTuple; simp only [seqL]; rw [hS]
theorem o_app (hS : S[n]? = some (.lst xs)) (h : xs.length < sizeLine) : oAppend (.ref n) [x] S = .ok .non (S.set n (.lst (xs ++ [x]))) := by unfold oAppend; simp only; rw [hS]; simp only; rw [if_pos h]
theorem o_ext (hS : S[n]? = some (.lst xs)) (h : xs.length + ys.length ≤ sizeLine) : oExtend (.ref n) [.lst ys] S = .ok .non (S.set n (.lst (xs ++ ys))) := by unfold oExtend; simp only [seqM]; rw [hS]; simp only; rw [if_pos h]
theorem o_pop (hS : S[n]? = some (.lst (xs ++ [x]))) : oPop (.ref n) [] S = .ok x (S.set n (.lst xs)) := by
  unfold oPop; simp only; rw [hS]; simp
theorem o_rev (hS : S[n]? = some (.lst xs)) : oReverse (.ref n) [] S = .ok .non (S.set n (.lst xs.reverse)) := by unfold oReverse; simp only; rw [hS]
theorem ty_str : tyW "str" S (.str a) = true := rfl
theorem ty_ref (hS : S[n]? = some (.lst xs)) : tyW "list" S (.ref n) = true := by unfold tyW; simp only [seqL]; rw [hS]; rfl
theorem o_sortS {l : List Str} : oSorted [.lst (l.map W.str)] S = .ok (.lst ((srt ltS l).map W.str)) S := by
  unfold oSorted
  simp only [seqA, seqT, seqL]
  unfold sortW
  rw [strsW_of]
theorem o_sortR {l : List Str} (hS : S[n]? = some (.lst (l.map W.str))) : oSorted [.ref n] S = .ok (.lst ((srt ltS l).map W.str)) S := by
  unfold oSorted
  simp only [seqA, seqT, seqL]
  rw [hS]
  simp only
  unfold sortW
  rw [strsW_of]
theorem strsW_rows {l : List (List Str)} (h : l ≠ []) : strsW (l.map rowW) = none := by
  cases l with
  | nil => exact absurd rfl h
  | cons r l => rfl
theorem sortW_rows {l : List (List Str)} (h : l.length < 2 ∨ [] ∉ l) : sortW (l.map rowW) = some ((srt (lexL ltS) l).map rowW) := by
  unfold sortW
  by_cases e : l = []
  · subst e
    simp [strsW, srt]
  · rw [strsW_rows e, rowsW_of]
    simp only
    rw [if_pos h]
theorem o_sortRR {l : List (List Str)} (hS : S[n]? = some (.lst (l.map rowW))) (h : l.length < 2 ∨ [] ∉ l) : oSorted [.ref n] S = .ok (.lst ((srt (lexL ltS) l).map rowW)) S := by
  unfold oSorted
  simp only [seqA, seqT, seqL]
  rw [hS]
  simp only
  rw [sortW_rows h]
theorem rangeW_map {n : Nat} : rangeW 0 n = (List.range n).map fun i : Nat => W.int (i : Nat) := by
  unfold rangeW
  apply List.map_congr_left
  intro i _
  simp
end
end Eng
namespace Eng
open PySem PySem.Spec PyProof.Rows L2
theorem getD_at {α : Type} {l : List α} {k : Nat} {d : α} (h : k < l.length) : l.getD k d = l[k] := by simp [List.getD, List.getElem?_eq_getElem h]
section
variable {κ : Type} [DecidableEq κ]
theorem valW_put {kvs : List (κ × W)} {k k' : κ} {v : W} : valW (putW kvs k v) k' = if k' = k then some v else valW kvs k' := by
  unfold putW
  by_cases h : kvs.any (fun kv => decide (kv.1 = k)) = true
  · rw [if_pos h]
    unfold valW
    induction kvs with
    | nil => simp at h
    | cons kv kvs ih =>
      rw [List.map_cons, List.find?_cons, List.find?_cons]
      by_cases h1 : kv.1 = k
      · rw [if_pos h1]
        by_cases h2 : k' = k
        · subst h2
          simp [h1]
        · have h3 : ¬ kv.1 = k' := fun z => h2 (z.symm.trans h1)
          simp only [h3, decide_false, if_neg h2]
          by_cases h4 : kvs.any (fun kv => decide (kv.1 = k)) = true
          · have := ih h4
            rw [if_neg h2] at this
            exact this
          · have e : kvs.map (fun kv => if kv.1 = k then (kv.1, v) else kv) = kvs := by
              have : ∀ x ∈ kvs, (fun kv : κ × W => if kv.1 = k then (kv.1, v) else kv) x = x := by
                intro x hx
                have : ¬ x.1 = k := fun z => h4 (List.any_eq_true.mpr ⟨x, hx, by simp [z]⟩)
                simp [this]
              exact (List.map_congr_left this).trans (List.map_id' kvs)
            rw [e]
      · rw [if_neg h1]
        have h4 : kvs.any (fun kv => decide (kv.1 = k)) = true := by
          rw [List.any_cons] at h
          simpa [h1] using h
        by_cases h5 : kv.1 = k'
        · subst h5
          simp [h1]
        · simp only [h5, decide_false]
          exact ih h4
  · rw [if_neg h]
    unfold valW
    rw [List.find?_append]
    by_cases h2 : k' = k
    · subst h2
      have : kvs.find? (fun kv => decide (kv.1 = k')) = none := by
        rw [List.find?_eq_none]
        intro x hx hx2
        exact h (List.any_eq_true.mpr ⟨x, hx, hx2⟩)
      rw [this]
      simp
    · have h3 : ¬ k = k' := fun z => h2 z.symm
      cases kvs.find? (fun kv => decide (kv.1 = k')) with
      | none => simp [h3, h2]
      | some x => simp [h2]
theorem putW_len {kvs : List (κ × W)} {k : κ} {v : W} : (putW kvs k v).length ≤ kvs.length + 1 := by
  unfold putW
  split <;> simp
end
section
variable {α : Type} {τ : ASt} {S : Store}
theorem dcompGo_ok {xs : List W} {cg : W → ASt → Option ASt} {ft : FT} {fk fv : FE} {Q : Ob → Store → Prop} (I : Nat → Ob → Store → Prop)
    (step : ∀ i w acc S, xs[i]? = some w → I i acc S → ∃ τ1, cg w τ = some τ1 ∧ OkE (ft τ1 S) fun b S2 => if b = true then OkE (fk τ1 S2) fun y S3 => OkE (fv τ1 S3) fun z S4 => ∃ acc', putOb acc y z = some acc' ∧ I (i + 1) acc' S4 else I (i + 1) acc S2) (fin : ∀ acc S, I xs.length acc S → Q acc S) :
    ∀ (m i : Nat) (acc : Ob) (S : Store), i + m = xs.length → I i acc S → OkE (dcompGo (.items xs) cg ft fk fv τ m i acc S) Q
  | 0, i, acc, S, e, h => by
    have e : xs.length = i := by omega
    unfold dcompGo
    rw [if_pos (show Wk.stop (.items xs) i S = true from decide_eq_true e)]
    exact ⟨fin acc S (e ▸ h)⟩
  | m + 1, i, acc, S, e, h => by
    have hi : i < xs.length := by omega
    have e1 : Wk.item (.items xs) i S = some xs[i] := List.getElem?_eq_getElem hi
    obtain ⟨τ1, e2, q⟩ := step i xs[i] acc S (List.getElem?_eq_getElem hi) h
    unfold dcompGo
    rw [e1]
    simp only
    rw [e2]
    simp only
    rw [OkE.bnd, OkE.nox]
    refine q.imp fun b S2 q2 => ?_
    cases b with
    | false => exact dcompGo_ok I step fin m (i + 1) acc S2 (by omega) q2
    | true =>
      rw [if_pos rfl] at q2 ⊢
      rw [OkE.bnd, OkE.nox]
      refine q2.imp fun y S3 q3 => ?_
      rw [OkE.bnd, OkE.nox]
      refine q3.imp fun z S4 q4 => ?_
      obtain ⟨acc', e3, q5⟩ := q4
      rw [e3]
      exact dcompGo_ok I step fin m (i + 1) acc' S4 (by omega) q5
theorem OkE.dcomp {o0 : Ob} {vs : List Nat} {fi : FI} {cg : W → ASt → Option ASt} {ft : FT} {fk fv : FE} {Q : W → Store → Prop} : OkE (mDcomp o0 vs fi cg ft fk fv τ S) Q = OkE (fi τ S) fun k S1 => OkE (dcompGo k cg ft fk fv (wipeW τ vs) k.len 0 o0 S1) fun o S2 => Q (.ref S2.length) (S2 ++ [o]) := by
  unfold mDcomp
  rw [OkE.bnd]
  congr 1
  funext k S1
  rw [OkE.bnd]
  congr 1
  funext ws S2
  rw [OkE.ok]
theorem dcomp_mapI {l : List α} {f : α → W} {o0 : Ob} {cg : W → ASt → Option ASt} {ft : FT} {fk fv : FE} {Q : Ob → Store → Prop} (I : List α → Ob → Store → Prop) (h0 : I [] o0 S)
    (step : ∀ pre x post acc S, l = pre ++ x :: post → I pre acc S → ∃ τ1, cg (f x) τ = some τ1 ∧ OkE (ft τ1 S) fun b S2 => if b = true then OkE (fk τ1 S2) fun y S3 => OkE (fv τ1 S3) fun z S4 => ∃ acc', putOb acc y z = some acc' ∧ I (pre ++ [x]) acc' S4 else I (pre ++ [x]) acc S2) (fin : ∀ acc S, I l acc S → Q acc S) :
    OkE (dcompGo (.items (l.map f)) cg ft fk fv τ (Wk.items (l.map f)).len 0 o0 S) Q := by
  refine dcompGo_ok (fun i acc S => I (l.take i) acc S) (fun i w acc S hi h => ?_) (fun acc S h => ?_) _ 0 o0 S (by show 0 + (l.map f).length = _; omega) (by simpa using h0)
  · rw [List.getElem?_map, Option.map_eq_some_iff] at hi
    obtain ⟨x, hx, rfl⟩ := hi
    have e := getElem?_split hx
    have e2 : l.take (i + 1) = l.take i ++ [x] := by rw [List.take_add_one, hx]; rfl
    simp only [e2]
    exact step _ x _ acc S e h
  · rw [List.length_map, List.take_length] at h
    exact fin acc S h
end
end Eng
namespace Gen
open PySem PySem.Spec PyProof.Rows L2 Eng
def topS (i : Nat) : Stmt := PySem.Challenge.pw_paircuts_k41_ends_by_any_order_told.main.body.getD i (.Pass ⟨0, 0, 0, 0⟩)
structure Facts (mg : Str → Option Value) : Prop where
  m_abs : mg "abs" = none
  m_all : mg "all" = none
  m_bool : mg "bool" = none
  m_enumerate : mg "enumerate" = none
  m_int : mg "int" = none
  m_isinstance : mg "isinstance" = none
  m_len : mg "len" = none
  m_list : mg "list" = none
  m_min : mg "min" = none
  m_range : mg "range" = none
  m_sorted : mg "sorted" = none
  m_str : mg "str" = none
  m_tuple : mg "tuple" = none
  m_zip : mg "zip" = none
abbrev s_places_of : Stmt := topS 1
theorem sc_places_of : FnScope ["table", "row", "rank_by", "rank", "rule", "place", "pair"] ["table", "row"] (defScope s_places_of) := ⟨rfl, rfl, rfl, by decide +kernel, rfl, by decide +kernel, by decide +kernel⟩
noncomputable def b_places_of : FS :=
  (mSeq (mAsg (mDcomp (.dT []) [3, 4] (mEnum (mCons (mBin oIx (mVar 0) (mC (.int 1))) mNil)) (cTup 2 (cCons (cName 3) (cCons (cName 4) cNil))) mYes (mVar 4) (mVar 3)) (gSet 2))
  (mRet (mCall oTuple (mCons (mComp [5, 6] (mEnumZip (mCons (mVar 1) (mCons (mSl (mVar 1) (mPart (mC (.int 1))) mNoPart) mNil))) (cTup 2 (cCons (cName 5) (cCons (cName 6) cNil))) (mTest (mBin oIn (mVar 6) (mVar 2))) (mTup (mCons (mVar 5) (mCons (mBin oIx (mVar 2) (mVar 6)) mNil)))) mNil))))
noncomputable def m_places_of : List W → Store → Res W := fnRes 7 b_places_of
theorem w_places_of {P : Program} {w : World} {K : PySem.W.Frag} {mg : Str → Option Value} {base : Heap} {f : Addr} {cdv : Value} {A : Around} {outer : List Env} {s : Shared} {H : Hp} {E : XK} (T : Facts mg)    (hr : Room 0 (A.deeper (envOfC "places_of" (defScope s_places_of) s.heap.objs.size f cdv))) :
    ASs (cxOf (L2.CX P w) P w K mg base ["table", "row", "rank_by", "rank", "rule", "place", "pair"] "places_of" (defScope s_places_of) f cdv A outer s H E) (wxOf E) (defBody s_places_of) b_places_of :=
  (ss_cons (s_set (i := 2) sc_places_of.nd rfl (by first | exact Or.inl rfl | exact Or.inr rfl) (a_dcomp (o0 := (.dT [])) (own := [("rank", 3), ("rule", 4)]) (t := (gTup K 2 (gCons (gName 3) (gCons (gName 4) gNil)))) (.inr rfl) (hr1 hr) rfl sc_places_of.nd (i_enum rfl T.m_enumerate (aa_cons (a_ix (hr1 hr) (av 0) a_int (fun _ _ => rfl)) aa_nil)) (blkOk_by rfl) (cg_tup (cgs_cons (cg_name (by decide)) (cgs_cons (cg_name (by decide)) cgs_nil))) (fun _ _ _ _ _ => (pg_tup rfl (pgs_cons (pg_name (i := 3) sc_places_of.nd rfl (by first | exact Or.inl rfl | exact Or.inr rfl)) (pgs_cons (pg_name (i := 4) sc_places_of.nd rfl (by first | exact Or.inl rfl | exact Or.inr rfl)) pgs_nil)))) (fun _ _ _ _ _ => ats_nil) (fun _ _ _ _ _ => (av 4)) (fun _ _ _ _ _ => (av 3))))
      (ss_one (s_ret (a_callTy (c_tuple rfl) rfl T.m_tuple (by decide +kernel) (aa_cons (a_comp (own := [("place", 5), ("pair", 6)]) (t := (gTup K 2 (gCons (gName 5) (gCons (gName 6) gNil)))) rfl sc_places_of.nd (i_enumzip rfl T.m_enumerate rfl T.m_zip (aa_cons (av 1) (aa_cons (a_sl (av 1) (ao_some a_int) ao_none) aa_nil))) (blkOk_by rfl) (cg_tup (cgs_cons (cg_name (by decide)) (cgs_cons (cg_name (by decide)) cgs_nil))) (fun _ _ _ _ _ => (pg_tup rfl (pgs_cons (pg_name (i := 5) sc_places_of.nd rfl (by first | exact Or.inl rfl | exact Or.inr rfl)) (pgs_cons (pg_name (i := 6) sc_places_of.nd rfl (by first | exact Or.inl rfl | exact Or.inr rfl)) pgs_nil)))) (fun _ _ _ _ _ => (ats_one (at_cmp (op_In (hr66 hr)) (av 6) (av 2) rfl))) (fun _ _ _ _ _ => (a_tup (aa_cons (av 5) (aa_cons (a_ix (hr1 hr) (av 2) (av 6) (fun _ _ => rfl)) aa_nil))))) aa_nil)))))
theorem bi_places_of {K : PySem.W.Frag} {f : Addr} {fd : FuncData} (F : FunD K "places_of" "places_of" (defArgs s_places_of) (defBody s_places_of) (defScope s_places_of) [] [] f fd) : Binds K fd ["table", "row"] [] := F.bindsN (fun _ _ _ _ _ _ us hl => match us, hl with | [_, _], _ => rfl)
theorem k_places_of {P : Program} {w : World} {K : PySem.W.Frag} {mg : Str → Option Value} {base : Heap} {f : Addr} {fd : FuncData} (T : Facts mg) (F : FunD K "places_of" "places_of" (defArgs s_places_of) (defBody s_places_of) (defScope s_places_of) [] [] f fd)    :
    FnOk P w K mg base (L2.CX P w) (0 + 1) f fd ["table", "row"] (spA K (["table", "row"] : List Str).length (fnRes (["table", "row", "rank_by", "rank", "rule", "place", "pair"] : List Str).length b_places_of)) :=
  fn_ok F sc_places_of (fun cdv A outer s H E hr => w_places_of T   hr)
theorem ok_places_of {P : Program} {w : World} {K : PySem.W.Frag} {mg : Str → Option Value} {base : Heap} {f : Addr} {fd : FuncData} (T : Facts mg) (F : FunD K "places_of" "places_of" (defArgs s_places_of) (defBody s_places_of) (defScope s_places_of) [] [] f fd) (gl : mg "places_of" = some (.ref f))   : FnA P w K mg base 1 2 "places_of" [] m_places_of := by
  have h := k_places_of (P := P) (w := w) (mg := mg) (base := base) T F 
  exact ⟨f, fd, _, [], [], h, gl, F.kp, bi_places_of F, .nil, fun _ _ => .nil⟩
abbrev s_joined_at : Stmt := topS 2
theorem sc_joined_at : FnScope ["row", "place"] ["row", "place"] (defScope s_joined_at) := ⟨rfl, rfl, rfl, by decide +kernel, rfl, by decide +kernel, by decide +kernel⟩
noncomputable def b_joined_at : FS :=
  (mRet (mTup (mStar (mSl (mVar 0) mNoPart (mPart (mVar 1))) (mCons (mBin oAdd (mBin oIx (mVar 0) (mVar 1)) (mBin oIx (mVar 0) (mBin oAdd (mVar 1) (mC (.int 1))))) (mStar (mSl (mVar 0) (mPart (mBin oAdd (mVar 1) (mC (.int 2)))) mNoPart) mNil)))))
noncomputable def m_joined_at : List W → Store → Res W := fnRes 2 b_joined_at
theorem w_joined_at {P : Program} {w : World} {K : PySem.W.Frag} {mg : Str → Option Value} {base : Heap} {f : Addr} {cdv : Value} {A : Around} {outer : List Env} {s : Shared} {H : Hp} {E : XK} (T : Facts mg)    (hr : Room 0 (A.deeper (envOfC "joined_at" (defScope s_joined_at) s.heap.objs.size f cdv))) :
    ASs (cxOf (L2.CX P w) P w K mg base ["row", "place"] "joined_at" (defScope s_joined_at) f cdv A outer s H E) (wxOf E) (defBody s_joined_at) b_joined_at :=
  (ss_one (s_ret (a_tup (aa_star (a_sl (av 0) ao_none (ao_some (av 1))) (aa_cons (a_op op_Add (a_ix (hr1 hr) (av 0) (av 1) (fun _ _ => rfl)) (a_ix (hr1 hr) (av 0) (a_op op_Add (av 1) a_int) (fun _ _ => rfl))) (aa_star (a_sl (av 0) (ao_some (a_op op_Add (av 1) a_int)) ao_none) aa_nil))))))
theorem bi_joined_at {K : PySem.W.Frag} {f : Addr} {fd : FuncData} (F : FunD K "joined_at" "joined_at" (defArgs s_joined_at) (defBody s_joined_at) (defScope s_joined_at) [] [] f fd) : Binds K fd ["row", "place"] [] := F.bindsN (fun _ _ _ _ _ _ us hl => match us, hl with | [_, _], _ => rfl)
theorem k_joined_at {P : Program} {w : World} {K : PySem.W.Frag} {mg : Str → Option Value} {base : Heap} {f : Addr} {fd : FuncData} (T : Facts mg) (F : FunD K "joined_at" "joined_at" (defArgs s_joined_at) (defBody s_joined_at) (defScope s_joined_at) [] [] f fd)    :
    FnOk P w K mg base (L2.CX P w) (0 + 1) f fd ["row", "place"] (spA K (["row", "place"] : List Str).length (fnRes (["row", "place"] : List Str).length b_joined_at)) :=
  fn_ok F sc_joined_at (fun cdv A outer s H E hr => w_joined_at T   hr)
theorem ok_joined_at {P : Program} {w : World} {K : PySem.W.Frag} {mg : Str → Option Value} {base : Heap} {f : Addr} {fd : FuncData} (T : Facts mg) (F : FunD K "joined_at" "joined_at" (defArgs s_joined_at) (defBody s_joined_at) (defScope s_joined_at) [] [] f fd) (gl : mg "joined_at" = some (.ref f))   : FnA P w K mg base 1 2 "joined_at" [] m_joined_at := by
  have h := k_joined_at (P := P) (w := w) (mg := mg) (base := base) T F 
  exact ⟨f, fd, _, [], [], h, gl, F.kp, bi_joined_at F, .nil, fun _ _ => .nil⟩
abbrev s_makeable : Stmt := topS 4
theorem sc_makeable : FnScope ["table", "found", "letter", "turn", "left", "right"] ["table"] (defScope s_makeable) := ⟨rfl, rfl, rfl, by decide +kernel, rfl, by decide +kernel, by decide +kernel⟩
noncomputable def b_makeable : FS :=
  (mSeq (mAsg (mDcomp (.dK []) [2] (mWk (mBin oIx (mVar 0) (mC (.int 0)))) (cName 2) mYes (mVar 2) (mC (.bl true))) (gSet 1))
  (mSeq (mFor (mRng1 (mCons (mCall oLen (mCons (mBin oIx (mVar 0) (mC (.int 1))) mNil)) mNil)) (gSet 3) (mFor (mWk (mBin oIx (mVar 0) (mC (.int 1)))) (gTupW 2 (gConsW (gSet 4) (gConsW (gSet 5) gNilW))) (mIfS (mAnd (mTest (mBin oIn (mVar 4) (mVar 1))) (mTest (mBin oIn (mVar 5) (mVar 1)))) (mAsg (mC (.bl true)) (gPut (mVar 1) (mBin oAdd (mVar 4) (mVar 5)))) mSkip)))
  (mRet (mCall oTuple (mCons (mCall oSorted (mCons (mCall oListX (mCons (mVar 1) mNil)) mNil)) mNil)))))
noncomputable def m_makeable : List W → Store → Res W := fnRes 6 b_makeable
theorem w_makeable {P : Program} {w : World} {K : PySem.W.Frag} {mg : Str → Option Value} {base : Heap} {f : Addr} {cdv : Value} {A : Around} {outer : List Env} {s : Shared} {H : Hp} {E : XK} (T : Facts mg)    (hr : Room 0 (A.deeper (envOfC "makeable" (defScope s_makeable) s.heap.objs.size f cdv))) :
    ASs (cxOf (L2.CX P w) P w K mg base ["table", "found", "letter", "turn", "left", "right"] "makeable" (defScope s_makeable) f cdv A outer s H E) (wxOf E) (defBody s_makeable) b_makeable :=
  (ss_cons (s_setDcomp (i := 1) (o0 := (.dK [])) (own := [("letter", 2)]) (t := (gName 2)) (.inl rfl) (hr1 hr) rfl sc_makeable.nd rfl rfl (swD_true rfl rfl rfl (by decide +kernel)) (i_any (a_ix (hr1 hr) (av 0) a_int (fun _ _ => rfl))) (blkOk_by rfl) (cg_name (by decide)) (fun _ _ _ _ _ => (pg_name (i := 2) sc_makeable.nd rfl (by first | exact Or.inl rfl | exact Or.inr rfl))) (fun _ _ _ _ _ => ats_nil) (fun _ _ _ _ _ => (av 2)) (fun _ _ _ _ _ => a_bl))
      (ss_cons (s_for (passes_of rfl) rfl (i_range1 rfl T.m_range (aa_cons (a_callB c_len rfl T.m_len (by decide +kernel) (aa_cons (a_ix (hr1 hr) (av 0) a_int (fun _ _ => rfl)) aa_nil)) aa_nil)) (g_name (i := 3) sc_makeable.nd rfl (by first | exact Or.inl rfl | exact Or.inr rfl)) (ss_one (s_for (passes_of rfl) rfl (i_any (a_ix (hr1 hr) (av 0) a_int (fun _ _ => rfl))) (g_tup rfl (gs_cons (g_name (i := 4) sc_makeable.nd rfl (by first | exact Or.inl rfl | exact Or.inr rfl)) (gs_cons (g_name (i := 5) sc_makeable.nd rfl (by first | exact Or.inl rfl | exact Or.inr rfl)) gs_nil))) (ss_one (s_if (AW.at (aw_and (at_cmp (op_In (hr66 hr)) (av 4) (av 1) rfl) (aw_and1 (at_cmp (op_In (hr66 hr)) (av 5) (av 1) rfl)))) (ss_one (s_asg a_bl (g_put (hr1 hr) (av 1) (a_op op_Add (av 4) (av 5))))) ss_nil)))))
      (ss_one (s_ret (a_callTy (c_tuple rfl) rfl T.m_tuple (by decide +kernel) (aa_cons (a_callB (c_sorted rfl) rfl T.m_sorted (by decide +kernel) (aa_cons (a_callTy (c_listX rfl) rfl T.m_list (by decide +kernel) (aa_cons (av 1) aa_nil)) aa_nil)) aa_nil))))))
theorem bi_makeable {K : PySem.W.Frag} {f : Addr} {fd : FuncData} (F : FunD K "makeable" "makeable" (defArgs s_makeable) (defBody s_makeable) (defScope s_makeable) [] [] f fd) : Binds K fd ["table"] [] := F.bindsN (fun _ _ _ _ _ _ us hl => match us, hl with | [_], _ => rfl)
theorem k_makeable {P : Program} {w : World} {K : PySem.W.Frag} {mg : Str → Option Value} {base : Heap} {f : Addr} {fd : FuncData} (T : Facts mg) (F : FunD K "makeable" "makeable" (defArgs s_makeable) (defBody s_makeable) (defScope s_makeable) [] [] f fd)    :
    FnOk P w K mg base (L2.CX P w) (0 + 1) f fd ["table"] (spA K (["table"] : List Str).length (fnRes (["table", "found", "letter", "turn", "left", "right"] : List Str).length b_makeable)) :=
  fn_ok F sc_makeable (fun cdv A outer s H E hr => w_makeable T   hr)
theorem ok_makeable {P : Program} {w : World} {K : PySem.W.Frag} {mg : Str → Option Value} {base : Heap} {f : Addr} {fd : FuncData} (T : Facts mg) (F : FunD K "makeable" "makeable" (defArgs s_makeable) (defBody s_makeable) (defScope s_makeable) [] [] f fd) (gl : mg "makeable" = some (.ref f))   : FnA P w K mg base 1 1 "makeable" [] m_makeable := by
  have h := k_makeable (P := P) (w := w) (mg := mg) (base := base) T F 
  exact ⟨f, fd, _, [], [], h, gl, F.kp, bi_makeable F, .nil, fun _ _ => .nil⟩
theorem okk_0 {P : Program} {w : World} {K : PySem.W.Frag} {mg : Str → Option Value} {base : Heap} {f : Addr} {fd : FuncData} (T : Facts mg) (F : FunD K "makeable" "makeable" (defArgs s_makeable) (defBody s_makeable) (defScope s_makeable) [] [] f fd) (gl : mg "makeable" = some (.ref f))   : FnK P w K mg base 1 1 "makeable" 0 ["table"] [0] m_makeable := by
  have h := k_makeable (P := P) (w := w) (mg := mg) (base := base) T F 
  exact ⟨f, fd, _, h, gl, F.kp, kbn_of F (fun _ _ _ _ _ _ us ws h1 h2 => match us, ws, h1, h2 with | [], [_], _, _ => rfl)⟩
abbrev s_ends_of : Stmt := topS 5
theorem sc_ends_of : FnScope ["table", "text", "row", "known", "waiting", "ends", "places", "place", "rank", "later"] ["table", "text"] (defScope s_ends_of) := ⟨rfl, rfl, rfl, by decide +kernel, rfl, by decide +kernel, by decide +kernel⟩
noncomputable def b_ends_of : FS :=
  (mSeq (mAsg (mCall oTuple (mCons (mVar 1) mNil)) (gSet 2))
  (mSeq (mAsg (mDisp (.dT []) [((mVar 2), (mC (.bl true)))]) (gSet 3))
  (mSeq (mAsg (mLstR (mCons (mVar 2) mNil)) (gSet 4))
  (mSeq (mAsg (mLstR mNil) (gSet 5))
  (mSeq (mWhile 1000000 (mTest (mBin oGt (mCall oLen (mCons (mVar 4) mNil)) (mC (.int 0)))) (mSeq (mAsg (mMeth0 "list" oPop (mVar 4)) (gSet 2))
  (mSeq (mAsg (mFn 2 m_places_of [] (mCons (mVar 0) (mCons (mVar 2) mNil))) (gSet 6))
  (mSeq (mIfS (mTest (mBin oEq (mVar 6) (mTup mNil))) (mExpr (mMeth "list" oAppend (mVar 5) (mCons (mVar 2) mNil))) mSkip)
  (mFor (mWk (mVar 6)) (gTupW 2 (gConsW (gSet 7) (gConsW (gSet 8) gNilW))) (mSeq (mAsg (mFn 2 m_joined_at [] (mCons (mVar 2) (mCons (mVar 7) mNil))) (gSet 9))
  (mIfS (mTest (mBin oNotIn (mVar 9) (mVar 3))) (mSeq (mAsg (mC (.bl true)) (gPut (mVar 3) (mVar 9)))
  (mExpr (mMeth "list" oAppend (mVar 4) (mCons (mVar 9) mNil)))) mSkip)))))))
  (mRet (mCall oTuple (mCons (mCall oSorted (mCons (mVar 5) mNil)) mNil))))))))
noncomputable def m_ends_of : List W → Store → Res W := fnRes 10 b_ends_of
theorem w_ends_of {P : Program} {w : World} {K : PySem.W.Frag} {mg : Str → Option Value} {base : Heap} {f : Addr} {cdv : Value} {A : Around} {outer : List Env} {s : Shared} {H : Hp} {E : XK} (T : Facts mg)  (F_joined_at : FnA P w K mg base 1 2 "joined_at" [] m_joined_at) (F_places_of : FnA P w K mg base 1 2 "places_of" [] m_places_of)  (hr : Room 1 (A.deeper (envOfC "ends_of" (defScope s_ends_of) s.heap.objs.size f cdv))) :
    ASs (cxOf (L2.CX P w) P w K mg base ["table", "text", "row", "known", "waiting", "ends", "places", "place", "rank", "later"] "ends_of" (defScope s_ends_of) f cdv A outer s H E) (wxOf E) (defBody s_ends_of) b_ends_of :=
  (ss_cons (s_set (i := 2) sc_ends_of.nd rfl (by first | exact Or.inl rfl | exact Or.inr rfl) (a_callTy (c_tuple rfl) rfl T.m_tuple (by decide +kernel) (aa_cons (av 1) aa_nil)))
      (ss_cons (s_set (i := 3) sc_ends_of.nd rfl (by first | exact Or.inl rfl | exact Or.inr rfl) (a_disp (l := [((mVar 2), (mC (.bl true)))]) (o0 := (.dT [])) (.inr rfl) (hr1 hr) (pps_cons (av 2) a_bl pps_nil)))
      (ss_cons (s_set (i := 4) sc_ends_of.nd rfl (by first | exact Or.inl rfl | exact Or.inr rfl) (a_lstR (aa_cons (av 2) aa_nil)))
      (ss_cons (s_set (i := 5) sc_ends_of.nd rfl (by first | exact Or.inl rfl | exact Or.inr rfl) (a_lstR aa_nil))
      (ss_cons (s_while 1000000 (passes_of rfl) (at_cmp op_Gt (a_callB c_len rfl T.m_len (by decide +kernel) (aa_cons (av 4) aa_nil)) a_int (nomark _)) (ss_cons (s_set (i := 2) sc_ends_of.nd rfl (by first | exact Or.inl rfl | exact Or.inr rfl) (a_meth0 PySem.F.plainAttrs_list PySem.F.slot_list_pop PySem.F.type_list_pop m_pop (av 4)))
      (ss_cons (s_set (i := 6) sc_ends_of.nd rfl (by first | exact Or.inl rfl | exact Or.inr rfl) (a_fn F_places_of hr (by decide) rfl (takes_of rfl rfl rfl rfl) (aa_cons (av 0) (aa_cons (av 2) aa_nil))))
      (ss_cons (s_if (at_cmp (op_Eq (hr64 hr)) (av 6) (a_tup aa_nil) (nomark _)) (ss_one (s_expr (a_meth PySem.F.plainAttrs_list PySem.F.slot_list_append PySem.F.type_list_append m_append (av 5) (aa_cons (av 2) aa_nil)))) ss_nil)
      (ss_one (s_for (passes_of rfl) rfl (i_any (av 6)) (g_tup rfl (gs_cons (g_name (i := 7) sc_ends_of.nd rfl (by first | exact Or.inl rfl | exact Or.inr rfl)) (gs_cons (g_name (i := 8) sc_ends_of.nd rfl (by first | exact Or.inl rfl | exact Or.inr rfl)) gs_nil))) (ss_cons (s_set (i := 9) sc_ends_of.nd rfl (by first | exact Or.inl rfl | exact Or.inr rfl) (a_fn F_joined_at hr (by decide) rfl (takes_of rfl rfl rfl rfl) (aa_cons (av 2) (aa_cons (av 7) aa_nil))))
      (ss_one (s_if (at_cmp (op_NotIn (hr66 hr)) (av 9) (av 3) rfl) (ss_cons (s_asg a_bl (g_put (hr1 hr) (av 3) (av 9)))
      (ss_one (s_expr (a_meth PySem.F.plainAttrs_list PySem.F.slot_list_append PySem.F.type_list_append m_append (av 4) (aa_cons (av 9) aa_nil))))) ss_nil)))))))))
      (ss_one (s_ret (a_callTy (c_tuple rfl) rfl T.m_tuple (by decide +kernel) (aa_cons (a_callB (c_sorted rfl) rfl T.m_sorted (by decide +kernel) (aa_cons (av 5) aa_nil)) aa_nil)))))))))
theorem bi_ends_of {K : PySem.W.Frag} {f : Addr} {fd : FuncData} (F : FunD K "ends_of" "ends_of" (defArgs s_ends_of) (defBody s_ends_of) (defScope s_ends_of) [] [] f fd) : Binds K fd ["table", "text"] [] := F.bindsN (fun _ _ _ _ _ _ us hl => match us, hl with | [_, _], _ => rfl)
theorem k_ends_of {P : Program} {w : World} {K : PySem.W.Frag} {mg : Str → Option Value} {base : Heap} {f : Addr} {fd : FuncData} (T : Facts mg) (F : FunD K "ends_of" "ends_of" (defArgs s_ends_of) (defBody s_ends_of) (defScope s_ends_of) [] [] f fd)  (F_joined_at : FnA P w K mg base 1 2 "joined_at" [] m_joined_at) (F_places_of : FnA P w K mg base 1 2 "places_of" [] m_places_of)  :
    FnOk P w K mg base (L2.CX P w) (1 + 1) f fd ["table", "text"] (spA K (["table", "text"] : List Str).length (fnRes (["table", "text", "row", "known", "waiting", "ends", "places", "place", "rank", "later"] : List Str).length b_ends_of)) :=
  fn_ok F sc_ends_of (fun cdv A outer s H E hr => w_ends_of T  F_joined_at F_places_of hr)
theorem ok_ends_of {P : Program} {w : World} {K : PySem.W.Frag} {mg : Str → Option Value} {base : Heap} {f : Addr} {fd : FuncData} (T : Facts mg) (F : FunD K "ends_of" "ends_of" (defArgs s_ends_of) (defBody s_ends_of) (defScope s_ends_of) [] [] f fd) (gl : mg "ends_of" = some (.ref f)) (F_joined_at : FnA P w K mg base 1 2 "joined_at" [] m_joined_at) (F_places_of : FnA P w K mg base 1 2 "places_of" [] m_places_of)  : FnA P w K mg base 2 2 "ends_of" [] m_ends_of := by
  have h := k_ends_of (P := P) (w := w) (mg := mg) (base := base) T F F_joined_at F_places_of
  exact ⟨f, fd, _, [], [], h, gl, F.kp, bi_ends_of F, .nil, fun _ _ => .nil⟩
theorem okk_1 {P : Program} {w : World} {K : PySem.W.Frag} {mg : Str → Option Value} {base : Heap} {f : Addr} {fd : FuncData} (T : Facts mg) (F : FunD K "ends_of" "ends_of" (defArgs s_ends_of) (defBody s_ends_of) (defScope s_ends_of) [] [] f fd) (gl : mg "ends_of" = some (.ref f)) (F_joined_at : FnA P w K mg base 1 2 "joined_at" [] m_joined_at) (F_places_of : FnA P w K mg base 1 2 "places_of" [] m_places_of)  : FnK P w K mg base 2 2 "ends_of" 0 ["text", "table"] [1, 0] m_ends_of := by
  have h := k_ends_of (P := P) (w := w) (mg := mg) (base := base) T F F_joined_at F_places_of
  exact ⟨f, fd, _, h, gl, F.kp, kbn_of F (fun _ _ _ _ _ _ us ws h1 h2 => match us, ws, h1, h2 with | [], [_, _], _, _ => rfl)⟩
abbrev s__law_row : Stmt := topS 7
theorem sc__law_row : FnScope ["_law_script", "_law_many", "_law_row_here", "_law_rest", "_law_at", "_law_mixed", "_law_k", "_law_cell"] ["_law_script", "_law_many"] (defScope s__law_row) := ⟨rfl, rfl, rfl, by decide +kernel, rfl, by decide +kernel, by decide +kernel⟩
noncomputable def b__law_row : FS :=
  (mSeq (mAsg (mTup (mCons (mLstR mNil) (mCons (mC (.int 0)) (mCons (mC (.int 0)) (mCons (mBin oAdd (mC (.int 7)) (mCall oLen (mCons (mVar 0) mNil))) mNil))))) (gTupW 4 (gConsW (gSet 2) (gConsW (gSet 3) (gConsW (gSet 4) (gConsW (gSet 5) gNilW))))))
  (mSeq (mFor (mRng1 (mCons (mVar 1) mNil)) (gSet 6) (mIfS (mTest (mBin oGt (mVar 3) (mC (.int 0)))) (mSeq (mExpr (mMeth "list" oAppend (mVar 2) (mCons (mBin oMod (mCall oIntX (mCons (mVar 3) mNil)) (mC (.int 1000000))) mNil)))
  (mAsg (mBin oFdiv (mVar 3) (mC (.int 1000000))) (gSet 3))) (mIfS (mTest (mBin oLt (mVar 4) (mCall oMin2 (mCons (mC (.int 63)) (mCons (mCall oLen (mCons (mVar 0) mNil)) mNil))))) (mSeq (mAsg (mCall oAbs (mCons (mBin oIx (mVar 0) (mVar 4)) mNil)) (gSet 7))
  (mSeq (mAug 4 oIAdd (mC (.int 1)))
  (mSeq (mAsg (mBin oMod (mCall oIntX (mCons (mBin oAdd (mBin oMul (mVar 5) (mC (.int 69621))) (mVar 7)) mNil)) (mC (.int 2147483647))) (gSet 5))
  (mSeq (mExpr (mMeth "list" oAppend (mVar 2) (mCons (mBin oMod (mCall oIntX (mCons (mBin oAdd (mBin oMul (mBin oMod (mCall oIntX (mCons (mVar 7) mNil)) (mC (.int 2147483629))) (mC (.int 48271))) (mBin oMul (mVar 6) (mC (.int 6007)))) mNil)) (mC (.int 2147483647))) mNil)))
  (mIfS (mTest (mBin oGe (mVar 7) (mBin oPow (mC (.int 10)) (mC (.int 18))))) (mSeq (mAsg (mBin oMod (mCall oIntX (mCons (mVar 7) mNil)) (mC (.int 1000000))) (gPut (mVar 2) (mNeg (mC (.int 1)))))
  (mAsg (mBin oFdiv (mVar 7) (mC (.int 1000000))) (gSet 3))) mSkip))))) (mSeq (mAsg (mBin oMod (mCall oIntX (mCons (mBin oAdd (mBin oAdd (mBin oMul (mVar 5) (mC (.int 48271))) (mBin oMul (mVar 6) (mC (.int 13)))) (mC (.int 5))) mNil)) (mC (.int 2147483647))) (gSet 5))
  (mExpr (mMeth "list" oAppend (mVar 2) (mCons (mBin oFdiv (mVar 5) (mC (.int 1024))) mNil)))))))
  (mSeq (mExpr (mMeth0 "list" oReverse (mVar 2)))
  (mRet (mVar 2)))))
noncomputable def m__law_row : List W → Store → Res W := fnKeep 8 b__law_row
theorem w__law_row {P : Program} {w : World} {K : PySem.W.Frag} {mg : Str → Option Value} {base : Heap} {f : Addr} {cdv : Value} {A : Around} {outer : List Env} {s : Shared} {H : Hp} {E : XK} (T : Facts mg)    (hr : Room 0 (A.deeper (envOfC "_law_row" (defScope s__law_row) s.heap.objs.size f cdv))) :
    ASs (cxOf (L2.CX P w) P w K mg base ["_law_script", "_law_many", "_law_row_here", "_law_rest", "_law_at", "_law_mixed", "_law_k", "_law_cell"] "_law_row" (defScope s__law_row) f cdv A outer s H E) (wxOf E) (defBody s__law_row) b__law_row :=
  (ss_cons (s_asg (a_tup (aa_cons (a_lstR aa_nil) (aa_cons a_int (aa_cons a_int (aa_cons (a_op op_Add a_int (a_callB c_len rfl T.m_len (by decide +kernel) (aa_cons (av 0) aa_nil))) aa_nil))))) (g_tup rfl (gs_cons (g_name (i := 2) sc__law_row.nd rfl (by first | exact Or.inl rfl | exact Or.inr rfl)) (gs_cons (g_name (i := 3) sc__law_row.nd rfl (by first | exact Or.inl rfl | exact Or.inr rfl)) (gs_cons (g_name (i := 4) sc__law_row.nd rfl (by first | exact Or.inl rfl | exact Or.inr rfl)) (gs_cons (g_name (i := 5) sc__law_row.nd rfl (by first | exact Or.inl rfl | exact Or.inr rfl)) gs_nil))))))
      (ss_cons (s_for (passes_of rfl) rfl (i_range1 rfl T.m_range (aa_cons (av 1) aa_nil)) (g_name (i := 6) sc__law_row.nd rfl (by first | exact Or.inl rfl | exact Or.inr rfl)) (ss_one (s_if (at_cmp op_Gt (av 3) a_int (nomark _)) (ss_cons (s_expr (a_meth PySem.F.plainAttrs_list PySem.F.slot_list_append PySem.F.type_list_append m_append (av 2) (aa_cons (a_op op_Mod (a_callTy c_intX rfl T.m_int (by decide +kernel) (aa_cons (av 3) aa_nil)) a_int) aa_nil)))
      (ss_one (s_set (i := 3) sc__law_row.nd rfl (by first | exact Or.inl rfl | exact Or.inr rfl) (a_op op_Fdiv (av 3) a_int)))) (ss_one (s_if (at_cmp op_Lt (av 4) (a_callB (c_min2 rfl) rfl T.m_min (by decide +kernel) (aa_cons a_int (aa_cons (a_callB c_len rfl T.m_len (by decide +kernel) (aa_cons (av 0) aa_nil)) aa_nil))) (nomark _)) (ss_cons (s_set (i := 7) sc__law_row.nd rfl (by first | exact Or.inl rfl | exact Or.inr rfl) (a_callB c_abs rfl T.m_abs (by decide +kernel) (aa_cons (a_ix (hr1 hr) (av 0) (av 4) (fun _ _ => rfl)) aa_nil)))
      (ss_cons (s_aug (i := 4) sc__law_row.nd rfl (by first | exact Or.inl rfl | exact Or.inr rfl) a_int (ip_of iop_Add))
      (ss_cons (s_set (i := 5) sc__law_row.nd rfl (by first | exact Or.inl rfl | exact Or.inr rfl) (a_op op_Mod (a_callTy c_intX rfl T.m_int (by decide +kernel) (aa_cons (a_op op_Add (a_op op_Mul (av 5) a_int) (av 7)) aa_nil)) a_int))
      (ss_cons (s_expr (a_meth PySem.F.plainAttrs_list PySem.F.slot_list_append PySem.F.type_list_append m_append (av 2) (aa_cons (a_op op_Mod (a_callTy c_intX rfl T.m_int (by decide +kernel) (aa_cons (a_op op_Add (a_op op_Mul (a_op op_Mod (a_callTy c_intX rfl T.m_int (by decide +kernel) (aa_cons (av 7) aa_nil)) a_int) a_int) (a_op op_Mul (av 6) a_int)) aa_nil)) a_int) aa_nil)))
      (ss_one (s_if (at_cmp op_Ge (av 7) (a_op op_Pow a_int a_int) (nomark _)) (ss_cons (s_asg (a_op op_Mod (a_callTy c_intX rfl T.m_int (by decide +kernel) (aa_cons (av 7) aa_nil)) a_int) (g_put (hr1 hr) (av 2) (a_neg a_int)))
      (ss_one (s_set (i := 3) sc__law_row.nd rfl (by first | exact Or.inl rfl | exact Or.inr rfl) (a_op op_Fdiv (av 7) a_int)))) ss_nil)))))) (ss_cons (s_set (i := 5) sc__law_row.nd rfl (by first | exact Or.inl rfl | exact Or.inr rfl) (a_op op_Mod (a_callTy c_intX rfl T.m_int (by decide +kernel) (aa_cons (a_op op_Add (a_op op_Add (a_op op_Mul (av 5) a_int) (a_op op_Mul (av 6) a_int)) a_int) aa_nil)) a_int))
      (ss_one (s_expr (a_meth PySem.F.plainAttrs_list PySem.F.slot_list_append PySem.F.type_list_append m_append (av 2) (aa_cons (a_op op_Fdiv (av 5) a_int) aa_nil))))))))))
      (ss_cons (s_expr (a_meth0 PySem.F.plainAttrs_list PySem.F.slot_list_reverse PySem.F.type_list_reverse m_reverse (av 2)))
      (ss_one (s_ret (av 2))))))
theorem bi__law_row {K : PySem.W.Frag} {f : Addr} {fd : FuncData} (F : FunD K "_law_row" "_law_row" (defArgs s__law_row) (defBody s__law_row) (defScope s__law_row) [] [] f fd) : Binds K fd ["_law_script", "_law_many"] [] := F.bindsN (fun _ _ _ _ _ _ us hl => match us, hl with | [_, _], _ => rfl)
theorem k__law_row {P : Program} {w : World} {K : PySem.W.Frag} {mg : Str → Option Value} {base : Heap} {f : Addr} {fd : FuncData} (T : Facts mg) (F : FunD K "_law_row" "_law_row" (defArgs s__law_row) (defBody s__law_row) (defScope s__law_row) [] [] f fd)    :
    FnOk P w K mg base (L2.CX P w) (0 + 1) f fd ["_law_script", "_law_many"] (spA K (["_law_script", "_law_many"] : List Str).length (fnKeep (["_law_script", "_law_many", "_law_row_here", "_law_rest", "_law_at", "_law_mixed", "_law_k", "_law_cell"] : List Str).length b__law_row)) :=
  fn_okK F sc__law_row (fun cdv A outer s H E hr => w__law_row T   hr)
theorem ok__law_row {P : Program} {w : World} {K : PySem.W.Frag} {mg : Str → Option Value} {base : Heap} {f : Addr} {fd : FuncData} (T : Facts mg) (F : FunD K "_law_row" "_law_row" (defArgs s__law_row) (defBody s__law_row) (defScope s__law_row) [] [] f fd) (gl : mg "_law_row" = some (.ref f))   : FnA P w K mg base 1 2 "_law_row" [] m__law_row := by
  have h := k__law_row (P := P) (w := w) (mg := mg) (base := base) T F 
  exact ⟨f, fd, _, [], [], h, gl, F.kp, bi__law_row F, .nil, fun _ _ => .nil⟩
abbrev s__law_take : Stmt := topS 8
theorem sc__law_take : FnScope ["_law_row_here", "_law_many"] ["_law_row_here", "_law_many"] (defScope s__law_take) := ⟨rfl, rfl, rfl, by decide +kernel, rfl, by decide +kernel, by decide +kernel⟩
noncomputable def b__law_take : FS :=
  (mRet (mIf (mTest (mBin oNe (mVar 0) (mLst mNil))) (mBin oMod (mCall oIntX (mCons (mMeth0 "list" oPop (mVar 0)) mNil)) (mVar 1)) (mC (.int 0))))
noncomputable def m__law_take : List W → Store → Res W := fnRes 2 b__law_take
theorem w__law_take {P : Program} {w : World} {K : PySem.W.Frag} {mg : Str → Option Value} {base : Heap} {f : Addr} {cdv : Value} {A : Around} {outer : List Env} {s : Shared} {H : Hp} {E : XK} (T : Facts mg)    (hr : Room 0 (A.deeper (envOfC "_law_take" (defScope s__law_take) s.heap.objs.size f cdv))) :
    ASs (cxOf (L2.CX P w) P w K mg base ["_law_row_here", "_law_many"] "_law_take" (defScope s__law_take) f cdv A outer s H E) (wxOf E) (defBody s__law_take) b__law_take :=
  (ss_one (s_ret (a_if (at_cmp (op_Ne (hr64 hr)) (av 0) (a_lst aa_nil) (nomark _)) (a_op op_Mod (a_callTy c_intX rfl T.m_int (by decide +kernel) (aa_cons (a_meth0 PySem.F.plainAttrs_list PySem.F.slot_list_pop PySem.F.type_list_pop m_pop (av 0)) aa_nil)) (av 1)) a_int)))
theorem bi__law_take {K : PySem.W.Frag} {f : Addr} {fd : FuncData} (F : FunD K "_law_take" "_law_take" (defArgs s__law_take) (defBody s__law_take) (defScope s__law_take) [] [] f fd) : Binds K fd ["_law_row_here", "_law_many"] [] := F.bindsN (fun _ _ _ _ _ _ us hl => match us, hl with | [_, _], _ => rfl)
theorem k__law_take {P : Program} {w : World} {K : PySem.W.Frag} {mg : Str → Option Value} {base : Heap} {f : Addr} {fd : FuncData} (T : Facts mg) (F : FunD K "_law_take" "_law_take" (defArgs s__law_take) (defBody s__law_take) (defScope s__law_take) [] [] f fd)    :
    FnOk P w K mg base (L2.CX P w) (0 + 1) f fd ["_law_row_here", "_law_many"] (spA K (["_law_row_here", "_law_many"] : List Str).length (fnRes (["_law_row_here", "_law_many"] : List Str).length b__law_take)) :=
  fn_ok F sc__law_take (fun cdv A outer s H E hr => w__law_take T   hr)
theorem ok__law_take {P : Program} {w : World} {K : PySem.W.Frag} {mg : Str → Option Value} {base : Heap} {f : Addr} {fd : FuncData} (T : Facts mg) (F : FunD K "_law_take" "_law_take" (defArgs s__law_take) (defBody s__law_take) (defScope s__law_take) [] [] f fd) (gl : mg "_law_take" = some (.ref f))   : FnA P w K mg base 1 2 "_law_take" [] m__law_take := by
  have h := k__law_take (P := P) (w := w) (mg := mg) (base := base) T F 
  exact ⟨f, fd, _, [], [], h, gl, F.kp, bi__law_take F, .nil, fun _ _ => .nil⟩
abbrev s__law_word : Stmt := topS 9
theorem sc__law_word : FnScope ["_law_word_here", "_law_name", "_law_sign"] ["_law_word_here", "_law_name"] (defScope s__law_word) := ⟨rfl, rfl, rfl, by decide +kernel, rfl, by decide +kernel, by decide +kernel⟩
noncomputable def b__law_word : FS :=
  (mRet (mMeth "str" oJoin (mC (.str "")) (mCons (mComp [2] (mWk (mVar 0)) (cName 2) mYes (mBin oIx (mVar 1) (mCall oIntX (mCons (mVar 2) mNil)))) mNil)))
noncomputable def m__law_word : List W → Store → Res W := fnRes 3 b__law_word
theorem w__law_word {P : Program} {w : World} {K : PySem.W.Frag} {mg : Str → Option Value} {base : Heap} {f : Addr} {cdv : Value} {A : Around} {outer : List Env} {s : Shared} {H : Hp} {E : XK} (T : Facts mg)    (hr : Room 0 (A.deeper (envOfC "_law_word" (defScope s__law_word) s.heap.objs.size f cdv))) :
    ASs (cxOf (L2.CX P w) P w K mg base ["_law_word_here", "_law_name", "_law_sign"] "_law_word" (defScope s__law_word) f cdv A outer s H E) (wxOf E) (defBody s__law_word) b__law_word :=
  (ss_one (s_ret (a_meth PySem.F.plainAttrs_str PySem.F.slot_str_join PySem.F.type_str_join m_join a_str (aa_cons (a_comp (own := [("_law_sign", 2)]) (t := (gName 2)) rfl sc__law_word.nd (i_any (av 0)) (blkOk_by rfl) (cg_name (by decide)) (fun _ _ _ _ _ => (pg_name (i := 2) sc__law_word.nd rfl (by first | exact Or.inl rfl | exact Or.inr rfl))) (fun _ _ _ _ _ => ats_nil) (fun _ _ _ _ _ => (a_ix (hr1 hr) (av 1) (a_callTy c_intX rfl T.m_int (by decide +kernel) (aa_cons (av 2) aa_nil)) (fun _ _ => rfl)))) aa_nil))))
theorem bi__law_word {K : PySem.W.Frag} {f : Addr} {fd : FuncData} (F : FunD K "_law_word" "_law_word" (defArgs s__law_word) (defBody s__law_word) (defScope s__law_word) [] [] f fd) : Binds K fd ["_law_word_here", "_law_name"] [] := F.bindsN (fun _ _ _ _ _ _ us hl => match us, hl with | [_, _], _ => rfl)
theorem k__law_word {P : Program} {w : World} {K : PySem.W.Frag} {mg : Str → Option Value} {base : Heap} {f : Addr} {fd : FuncData} (T : Facts mg) (F : FunD K "_law_word" "_law_word" (defArgs s__law_word) (defBody s__law_word) (defScope s__law_word) [] [] f fd)    :
    FnOk P w K mg base (L2.CX P w) (0 + 1) f fd ["_law_word_here", "_law_name"] (spA K (["_law_word_here", "_law_name"] : List Str).length (fnRes (["_law_word_here", "_law_name", "_law_sign"] : List Str).length b__law_word)) :=
  fn_ok F sc__law_word (fun cdv A outer s H E hr => w__law_word T   hr)
theorem ok__law_word {P : Program} {w : World} {K : PySem.W.Frag} {mg : Str → Option Value} {base : Heap} {f : Addr} {fd : FuncData} (T : Facts mg) (F : FunD K "_law_word" "_law_word" (defArgs s__law_word) (defBody s__law_word) (defScope s__law_word) [] [] f fd) (gl : mg "_law_word" = some (.ref f))   : FnA P w K mg base 1 2 "_law_word" [] m__law_word := by
  have h := k__law_word (P := P) (w := w) (mg := mg) (base := base) T F 
  exact ⟨f, fd, _, [], [], h, gl, F.kp, bi__law_word F, .nil, fun _ _ => .nil⟩
abbrev s__law_grown : Stmt := topS 10
theorem sc__law_grown : FnScope ["_law_row_here", "_law_name", "_law_rules_here", "_law_many", "_law_longest", "_law_k", "_law_made_here", "_law_left", "_law_right", "_law_rule"] ["_law_row_here", "_law_name", "_law_rules_here", "_law_many", "_law_longest"] (defScope s__law_grown) := ⟨rfl, rfl, rfl, by decide +kernel, rfl, by decide +kernel, by decide +kernel⟩
noncomputable def b__law_grown : FS :=
  (mSeq (mFor (mRng1 (mCons (mVar 3) mNil)) (gSet 5) (mSeq (mAsg (mBin oAdd (mCall oListX (mCons (mVar 1) mNil)) (mComp [7, 8] (mWk (mVar 2)) (cTup 2 (cCons (cName 7) (cCons (cName 8) cNil))) mYes (mBin oAdd (mVar 7) (mVar 8)))) (gSet 6))
  (mSeq (mAsg (mTup (mCons (mBin oIx (mVar 6) (mFn 2 m__law_take [] (mCons (mVar 0) (mCons (mCall oLen (mCons (mVar 6) mNil)) mNil)))) (mCons (mBin oIx (mVar 6) (mFn 2 m__law_take [] (mCons (mVar 0) (mCons (mCall oLen (mCons (mVar 6) mNil)) mNil)))) mNil))) (gSet 9))
  (mIfS (mAnd (mTest (mBin oLe (mCall oLen (mCons (mBin oAdd (mBin oIx (mVar 9) (mC (.int 0))) (mBin oIx (mVar 9) (mC (.int 1)))) mNil)) (mVar 4))) (mTest (mBin oNotIn (mVar 9) (mVar 2)))) (mAsg (mBin oAdd (mVar 2) (mLst (mCons (mVar 9) mNil))) (gSet 2)) mSkip))))
  (mRet (mVar 2)))
noncomputable def m__law_grown : List W → Store → Res W := fnKeep 10 b__law_grown
theorem w__law_grown {P : Program} {w : World} {K : PySem.W.Frag} {mg : Str → Option Value} {base : Heap} {f : Addr} {cdv : Value} {A : Around} {outer : List Env} {s : Shared} {H : Hp} {E : XK} (T : Facts mg)  (F__law_take : FnA P w K mg base 1 2 "_law_take" [] m__law_take)  (hr : Room 1 (A.deeper (envOfC "_law_grown" (defScope s__law_grown) s.heap.objs.size f cdv))) :
    ASs (cxOf (L2.CX P w) P w K mg base ["_law_row_here", "_law_name", "_law_rules_here", "_law_many", "_law_longest", "_law_k", "_law_made_here", "_law_left", "_law_right", "_law_rule"] "_law_grown" (defScope s__law_grown) f cdv A outer s H E) (wxOf E) (defBody s__law_grown) b__law_grown :=
  (ss_cons (s_for (passes_of rfl) rfl (i_range1 rfl T.m_range (aa_cons (av 3) aa_nil)) (g_name (i := 5) sc__law_grown.nd rfl (by first | exact Or.inl rfl | exact Or.inr rfl)) (ss_cons (s_set (i := 6) sc__law_grown.nd rfl (by first | exact Or.inl rfl | exact Or.inr rfl) (a_op op_Add (a_callTy (c_listX rfl) rfl T.m_list (by decide +kernel) (aa_cons (av 1) aa_nil)) (a_comp (own := [("_law_left", 7), ("_law_right", 8)]) (t := (gTup K 2 (gCons (gName 7) (gCons (gName 8) gNil)))) rfl sc__law_grown.nd (i_any (av 2)) (blkOk_by rfl) (cg_tup (cgs_cons (cg_name (by decide)) (cgs_cons (cg_name (by decide)) cgs_nil))) (fun _ _ _ _ _ => (pg_tup rfl (pgs_cons (pg_name (i := 7) sc__law_grown.nd rfl (by first | exact Or.inl rfl | exact Or.inr rfl)) (pgs_cons (pg_name (i := 8) sc__law_grown.nd rfl (by first | exact Or.inl rfl | exact Or.inr rfl)) pgs_nil)))) (fun _ _ _ _ _ => ats_nil) (fun _ _ _ _ _ => (a_op op_Add (av 7) (av 8))))))
      (ss_cons (s_set (i := 9) sc__law_grown.nd rfl (by first | exact Or.inl rfl | exact Or.inr rfl) (a_tup (aa_cons (a_ix (hr1 hr) (av 6) (a_fn F__law_take hr (by decide) rfl (takes_of rfl rfl rfl rfl) (aa_cons (av 0) (aa_cons (a_callB c_len rfl T.m_len (by decide +kernel) (aa_cons (av 6) aa_nil)) aa_nil))) (fun _ _ => rfl)) (aa_cons (a_ix (hr1 hr) (av 6) (a_fn F__law_take hr (by decide) rfl (takes_of rfl rfl rfl rfl) (aa_cons (av 0) (aa_cons (a_callB c_len rfl T.m_len (by decide +kernel) (aa_cons (av 6) aa_nil)) aa_nil))) (fun _ _ => rfl)) aa_nil))))
      (ss_one (s_if (AW.at (aw_and (at_cmp op_Le (a_callB c_len rfl T.m_len (by decide +kernel) (aa_cons (a_op op_Add (a_ix (hr1 hr) (av 9) a_int (fun _ _ => rfl)) (a_ix (hr1 hr) (av 9) a_int (fun _ _ => rfl))) aa_nil)) (av 4) (nomark _)) (aw_and1 (at_cmp (op_NotIn (hr66 hr)) (av 9) (av 2) rfl)))) (ss_one (s_set (i := 2) sc__law_grown.nd rfl (by first | exact Or.inl rfl | exact Or.inr rfl) (a_op op_Add (av 2) (a_lst (aa_cons (av 9) aa_nil))))) ss_nil)))))
      (ss_one (s_ret (av 2))))
theorem bi__law_grown {K : PySem.W.Frag} {f : Addr} {fd : FuncData} (F : FunD K "_law_grown" "_law_grown" (defArgs s__law_grown) (defBody s__law_grown) (defScope s__law_grown) [] [] f fd) : Binds K fd ["_law_row_here", "_law_name", "_law_rules_here", "_law_many", "_law_longest"] [] := F.bindsN (fun _ _ _ _ _ _ us hl => match us, hl with | [_, _, _, _, _], _ => rfl)
theorem k__law_grown {P : Program} {w : World} {K : PySem.W.Frag} {mg : Str → Option Value} {base : Heap} {f : Addr} {fd : FuncData} (T : Facts mg) (F : FunD K "_law_grown" "_law_grown" (defArgs s__law_grown) (defBody s__law_grown) (defScope s__law_grown) [] [] f fd)  (F__law_take : FnA P w K mg base 1 2 "_law_take" [] m__law_take)  :
    FnOk P w K mg base (L2.CX P w) (1 + 1) f fd ["_law_row_here", "_law_name", "_law_rules_here", "_law_many", "_law_longest"] (spA K (["_law_row_here", "_law_name", "_law_rules_here", "_law_many", "_law_longest"] : List Str).length (fnKeep (["_law_row_here", "_law_name", "_law_rules_here", "_law_many", "_law_longest", "_law_k", "_law_made_here", "_law_left", "_law_right", "_law_rule"] : List Str).length b__law_grown)) :=
  fn_okK F sc__law_grown (fun cdv A outer s H E hr => w__law_grown T  F__law_take hr)
theorem ok__law_grown {P : Program} {w : World} {K : PySem.W.Frag} {mg : Str → Option Value} {base : Heap} {f : Addr} {fd : FuncData} (T : Facts mg) (F : FunD K "_law_grown" "_law_grown" (defArgs s__law_grown) (defBody s__law_grown) (defScope s__law_grown) [] [] f fd) (gl : mg "_law_grown" = some (.ref f)) (F__law_take : FnA P w K mg base 1 2 "_law_take" [] m__law_take)  : FnA P w K mg base 2 5 "_law_grown" [] m__law_grown := by
  have h := k__law_grown (P := P) (w := w) (mg := mg) (base := base) T F F__law_take
  exact ⟨f, fd, _, [], [], h, gl, F.kp, bi__law_grown F, .nil, fun _ _ => .nil⟩
abbrev s__law_rules : Stmt := topS 11
theorem sc__law_rules : FnScope ["_law_row_here", "_law_name", "_law_most", "_law_longest", "_law_plans", "_law_sign", "_law_plan", "_law_rules_here", "_law_word_here", "_law_pair", "_law_mode", "_law_many", "_law_k", "_law_signs", "_law_stray", "_law_rule"] ["_law_row_here", "_law_name", "_law_most", "_law_longest"] (defScope s__law_rules) := ⟨rfl, rfl, rfl, by decide +kernel, rfl, by decide +kernel, by decide +kernel⟩
noncomputable def b__law_rules : FS :=
  (mSeq (mAsg (mLst (mCons (mC (.str "*")) (mCons (mC (.str "0.0")) (mCons (mC (.str "*")) (mCons (mC (.str "0.0 00.0")) (mCons (mC (.str "0.1 1.0 01.01")) (mCons (mC (.str "0.0 0.00")) (mCons (mC (.str "*")) (mCons (mC (.str "0.1 1.0 10.10")) (mCons (mC (.str "0.0 00.00 00.0")) (mCons (mC (.str "1.0 0.1 10.1")) (mCons (mC (.str "1.2 0.1 01.2 0.12")) (mCons (mC (.str "1.1 11.11 0.1111")) (mCons (mC (.str "01.2 0.1")) (mCons (mC (.str "0.1 1.2 01.2 0.12")) (mCons (mC (.str "3.0 2.3 1.2 0.1")) (mCons (mC (.str "")) (mCons (mC (.str "0.1 01.2 012.3")) (mCons (mC (.str "00.0 0.0")) (mCons (mC (.str "0.1 01.01 0101.0101")) (mCons (mC (.str "1.2 0.1 01.2")) (mCons (mC (.str "1.2 0.1 01.2 01.01")) (mCons (mC (.str "*")) (mCons (mC (.str "0.1 1.0 0.10 01.0")) (mCons (mC (.str "1.0 1.10 0.110")) (mCons (mC (.str "2.1 1.0 0.2 0.21")) mNil)))))))))))))))))))))))))) (gSet 4))
  (mSeq (mFor (mWk (mSl (mC (.str "0123")) (mPart (mCall oLen (mCons (mVar 1) mNil))) mNoPart)) (gSet 5) (mAsg (mComp [6] (mWk (mVar 4)) (cName 6) (mTest (mBin oNotIn (mVar 5) (mVar 6))) (mVar 6)) (gSet 4)))
  (mSeq (mAsg (mMeth0 "str" oWords (mBin oIx (mVar 4) (mFn 2 m__law_take [] (mCons (mVar 0) (mCons (mCall oLen (mCons (mVar 4) mNil)) mNil))))) (gSet 6))
  (mSeq (mAsg (mLstR mNil) (gSet 7))
  (mSeq (mFor (mWk (mVar 6)) (gSet 8) (mIfS (mTest (mBin oNe (mVar 8) (mC (.str "*")))) (mSeq (mAsg (mMeth "str" oSplit (mVar 8) (mCons (mC (.str ".")) mNil)) (gSet 9))
  (mExpr (mMeth "list" oAppend (mVar 7) (mCons (mTup (mCons (mFn 2 m__law_word [] (mCons (mBin oIx (mVar 9) (mC (.int 0))) (mCons (mVar 1) mNil))) (mCons (mFn 2 m__law_word [] (mCons (mBin oIx (mVar 9) (mC (.int 1))) (mCons (mVar 1) mNil))) mNil))) mNil)))) mSkip))
  (mSeq (mPar 10 11 (mCons (mFn 2 m__law_take [] (mCons (mVar 0) (mCons (mC (.int 6)) mNil))) (mCons (mBin oAdd (mC (.int 2)) (mFn 2 m__law_take [] (mCons (mVar 0) (mCons (mC (.int 4)) mNil)))) mNil)))
  (mSeq (mIfS (mOr (mTest (mBin oEq (mVar 6) (mLst (mCons (mC (.str "*")) mNil)))) (mTest (mBin oEq (mVar 10) (mC (.int 5))))) (mAsg (mFn 5 m__law_grown [] (mCons (mVar 0) (mCons (mVar 1) (mCons (mVar 7) (mCons (mIf (mTest (mBin oEq (mVar 6) (mLst (mCons (mC (.str "*")) mNil)))) (mVar 11) (mC (.int 1))) (mCons (mVar 3) mNil)))))) (gSet 7)) mSkip)
  (mSeq (mIfS (mTest (mBin oEq (mVar 10) (mC (.int 3)))) (mAsg (mBin oAdd (mSl (mVar 7) (mPart (mC (.int 1))) mNoPart) (mSl (mVar 7) mNoPart (mPart (mC (.int 1))))) (gSet 7)) mSkip)
  (mSeq (mIfS (mTest (mBin oEq (mVar 10) (mC (.int 4)))) (mAsg (mComp [12] (mRng1 (mCons (mCall oLen (mCons (mVar 7) mNil)) mNil)) (cName 12) mYes (mBin oIx (mVar 7) (mBin oSub (mBin oSub (mCall oLen (mCons (mVar 7) mNil)) (mC (.int 1))) (mVar 12)))) (gSet 7)) mSkip)
  (mSeq (mAsg (mMeth "str" oJoin (mC (.str "")) (mCons (mComp [12] (mRng1 (mCons (mC (.int 4)) mNil)) (cName 12) mYes (mBin oIx (mVar 1) (mFn 2 m__law_take [] (mCons (mVar 0) (mCons (mCall oLen (mCons (mVar 1) mNil)) mNil))))) mNil)) (gSet 13))
  (mSeq (mAsg (mTup (mCons (mSl (mVar 13) mNoPart (mPart (mBin oAdd (mC (.int 1)) (mFn 2 m__law_take [] (mCons (mVar 0) (mCons (mC (.int 2)) mNil)))))) (mCons (mSl (mVar 13) (mPart (mC (.int 2))) (mPart (mBin oAdd (mC (.int 3)) (mFn 2 m__law_take [] (mCons (mVar 0) (mCons (mC (.int 2)) mNil)))))) mNil))) (gSet 14))
  (mSeq (mIfS (mAnd (mTest (mBin oEq (mFn 2 m__law_take [] (mCons (mVar 0) (mCons (mC (.int 5)) mNil))) (mC (.int 0)))) (mTest (mBin oNotIn (mVar 14) (mVar 7)))) (mAsg (mBin oAdd (mLst (mCons (mVar 14) mNil)) (mVar 7)) (gSet 7)) mSkip)
  (mRet (mCall oTuple (mCons (mSl (mComp [15] (mWk (mVar 7)) (cName 15) (mTest (mBin oLe (mCall oLen (mCons (mBin oAdd (mBin oIx (mVar 15) (mC (.int 0))) (mBin oIx (mVar 15) (mC (.int 1)))) mNil)) (mVar 3))) (mVar 15)) mNoPart (mPart (mVar 2))) mNil)))))))))))))))
noncomputable def m__law_rules : List W → Store → Res W := fnRes 16 b__law_rules
theorem w__law_rules {P : Program} {w : World} {K : PySem.W.Frag} {mg : Str → Option Value} {base : Heap} {f : Addr} {cdv : Value} {A : Around} {outer : List Env} {s : Shared} {H : Hp} {E : XK} (T : Facts mg)  (F__law_grown : FnA P w K mg base 2 5 "_law_grown" [] m__law_grown) (F__law_take : FnA P w K mg base 1 2 "_law_take" [] m__law_take) (F__law_word : FnA P w K mg base 1 2 "_law_word" [] m__law_word)  (hr : Room 2 (A.deeper (envOfC "_law_rules" (defScope s__law_rules) s.heap.objs.size f cdv))) :
    ASs (cxOf (L2.CX P w) P w K mg base ["_law_row_here", "_law_name", "_law_most", "_law_longest", "_law_plans", "_law_sign", "_law_plan", "_law_rules_here", "_law_word_here", "_law_pair", "_law_mode", "_law_many", "_law_k", "_law_signs", "_law_stray", "_law_rule"] "_law_rules" (defScope s__law_rules) f cdv A outer s H E) (wxOf E) (defBody s__law_rules) b__law_rules :=
  (ss_cons (s_set (i := 4) sc__law_rules.nd rfl (by first | exact Or.inl rfl | exact Or.inr rfl) (a_lst (aa_cons a_str (aa_cons a_str (aa_cons a_str (aa_cons a_str (aa_cons a_str (aa_cons a_str (aa_cons a_str (aa_cons a_str (aa_cons a_str (aa_cons a_str (aa_cons a_str (aa_cons a_str (aa_cons a_str (aa_cons a_str (aa_cons a_str (aa_cons a_str (aa_cons a_str (aa_cons a_str (aa_cons a_str (aa_cons a_str (aa_cons a_str (aa_cons a_str (aa_cons a_str (aa_cons a_str (aa_cons a_str aa_nil)))))))))))))))))))))))))))
      (ss_cons (s_for (passes_of rfl) rfl (i_any (a_sl a_str (ao_some (a_callB c_len rfl T.m_len (by decide +kernel) (aa_cons (av 1) aa_nil))) ao_none)) (g_name (i := 5) sc__law_rules.nd rfl (by first | exact Or.inl rfl | exact Or.inr rfl)) (ss_one (s_setComp (i := 4) (own := [("_law_plan", 6)]) (t := (gName 6)) rfl sc__law_rules.nd rfl rfl (sw_true rfl rfl rfl (by decide +kernel)) (i_any (av 4)) (blkOk_by rfl) (cg_name (by decide)) (fun _ _ _ _ _ => (pg_name (i := 6) sc__law_rules.nd rfl (by first | exact Or.inl rfl | exact Or.inr rfl))) (fun _ _ _ _ _ => (ats_one (at_cmp (op_NotIn (hr66 hr)) (av 5) (av 6) rfl))) (fun _ _ _ _ _ => (av 6)))))
      (ss_cons (s_set (i := 6) sc__law_rules.nd rfl (by first | exact Or.inl rfl | exact Or.inr rfl) (a_meth0 PySem.F.plainAttrs_str PySem.F.slot_str_split PySem.F.type_str_split m_words (a_ix (hr1 hr) (av 4) (a_fn F__law_take hr (by decide) rfl (takes_of rfl rfl rfl rfl) (aa_cons (av 0) (aa_cons (a_callB c_len rfl T.m_len (by decide +kernel) (aa_cons (av 4) aa_nil)) aa_nil))) (fun _ _ => rfl))))
      (ss_cons (s_set (i := 7) sc__law_rules.nd rfl (by first | exact Or.inl rfl | exact Or.inr rfl) (a_lstR aa_nil))
      (ss_cons (s_for (passes_of rfl) rfl (i_any (av 6)) (g_name (i := 8) sc__law_rules.nd rfl (by first | exact Or.inl rfl | exact Or.inr rfl)) (ss_one (s_if (at_cmp (op_Ne (hr64 hr)) (av 8) a_str (nomark _)) (ss_cons (s_set (i := 9) sc__law_rules.nd rfl (by first | exact Or.inl rfl | exact Or.inr rfl) (a_meth PySem.F.plainAttrs_str PySem.F.slot_str_split PySem.F.type_str_split m_split (av 8) (aa_cons a_str aa_nil)))
      (ss_one (s_expr (a_meth PySem.F.plainAttrs_list PySem.F.slot_list_append PySem.F.type_list_append m_append (av 7) (aa_cons (a_tup (aa_cons (a_fn F__law_word hr (by decide) rfl (takes_of rfl rfl rfl rfl) (aa_cons (a_ix (hr1 hr) (av 9) a_int (fun _ _ => rfl)) (aa_cons (av 1) aa_nil))) (aa_cons (a_fn F__law_word hr (by decide) rfl (takes_of rfl rfl rfl rfl) (aa_cons (a_ix (hr1 hr) (av 9) a_int (fun _ _ => rfl)) (aa_cons (av 1) aa_nil))) aa_nil))) aa_nil))))) ss_nil)))
      (ss_cons (s_par (i := 10) (j := 11) rfl sc__law_rules.nd rfl rfl (by decide) rfl rfl (aa_cons (a_fn F__law_take hr (by decide) rfl (takes_of rfl rfl rfl rfl) (aa_cons (av 0) (aa_cons a_int aa_nil))) (aa_cons (a_op op_Add a_int (a_fn F__law_take hr (by decide) rfl (takes_of rfl rfl rfl rfl) (aa_cons (av 0) (aa_cons a_int aa_nil)))) aa_nil)) rfl)
      (ss_cons (s_if (AW.at (aw_or (at_cmp (op_Eq (hr64 hr)) (av 6) (a_lst (aa_cons a_str aa_nil)) (nomark _)) (aw_or1 (at_cmp (op_Eq (hr64 hr)) (av 10) a_int (nomark _))))) (ss_one (s_set (i := 7) sc__law_rules.nd rfl (by first | exact Or.inl rfl | exact Or.inr rfl) (a_fn F__law_grown hr (by decide) rfl (takes_of rfl rfl rfl rfl) (aa_cons (av 0) (aa_cons (av 1) (aa_cons (av 7) (aa_cons (a_if (at_cmp (op_Eq (hr64 hr)) (av 6) (a_lst (aa_cons a_str aa_nil)) (nomark _)) (av 11) a_int) (aa_cons (av 3) aa_nil)))))))) ss_nil)
      (ss_cons (s_if (at_cmp (op_Eq (hr64 hr)) (av 10) a_int (nomark _)) (ss_one (s_set (i := 7) sc__law_rules.nd rfl (by first | exact Or.inl rfl | exact Or.inr rfl) (a_op op_Add (a_sl (av 7) (ao_some a_int) ao_none) (a_sl (av 7) ao_none (ao_some a_int))))) ss_nil)
      (ss_cons (s_if (at_cmp (op_Eq (hr64 hr)) (av 10) a_int (nomark _)) (ss_one (s_set (i := 7) sc__law_rules.nd rfl (by first | exact Or.inl rfl | exact Or.inr rfl) (a_comp (own := [("_law_k", 12)]) (t := (gName 12)) rfl sc__law_rules.nd (i_range1 rfl T.m_range (aa_cons (a_callB c_len rfl T.m_len (by decide +kernel) (aa_cons (av 7) aa_nil)) aa_nil)) (blkOk_by rfl) (cg_name (by decide)) (fun _ _ _ _ _ => (pg_name (i := 12) sc__law_rules.nd rfl (by first | exact Or.inl rfl | exact Or.inr rfl))) (fun _ _ _ _ _ => ats_nil) (fun _ _ _ _ _ => (a_ix (hr1 hr) (av 7) (a_op op_Sub (a_op op_Sub (a_callB c_len rfl T.m_len (by decide +kernel) (aa_cons (av 7) aa_nil)) a_int) (av 12)) (fun _ _ => rfl)))))) ss_nil)
      (ss_cons (s_set (i := 13) sc__law_rules.nd rfl (by first | exact Or.inl rfl | exact Or.inr rfl) (a_meth PySem.F.plainAttrs_str PySem.F.slot_str_join PySem.F.type_str_join m_join a_str (aa_cons (a_comp (own := [("_law_k", 12)]) (t := (gName 12)) rfl sc__law_rules.nd (i_range1 rfl T.m_range (aa_cons a_int aa_nil)) (blkOk_by rfl) (cg_name (by decide)) (fun _ _ _ _ _ => (pg_name (i := 12) sc__law_rules.nd rfl (by first | exact Or.inl rfl | exact Or.inr rfl))) (fun _ _ _ _ _ => ats_nil) (fun _ _ _ _ _ => (a_ix (hr1 hr) (av 1) (a_fn F__law_take hr (by decide) rfl takes0 (aa_cons (av 0) (aa_cons (a_callB c_len rfl T.m_len (by decide +kernel) (aa_cons (av 1) aa_nil)) aa_nil))) (fun _ _ => rfl)))) aa_nil)))
      (ss_cons (s_set (i := 14) sc__law_rules.nd rfl (by first | exact Or.inl rfl | exact Or.inr rfl) (a_tup (aa_cons (a_sl (av 13) ao_none (ao_some (a_op op_Add a_int (a_fn F__law_take hr (by decide) rfl (takes_of rfl rfl rfl rfl) (aa_cons (av 0) (aa_cons a_int aa_nil)))))) (aa_cons (a_sl (av 13) (ao_some a_int) (ao_some (a_op op_Add a_int (a_fn F__law_take hr (by decide) rfl (takes_of rfl rfl rfl rfl) (aa_cons (av 0) (aa_cons a_int aa_nil)))))) aa_nil))))
      (ss_cons (s_if (AW.at (aw_and (at_cmp (op_Eq (hr64 hr)) (a_fn F__law_take hr (by decide) rfl (takes_of rfl rfl rfl rfl) (aa_cons (av 0) (aa_cons a_int aa_nil))) a_int (nomark _)) (aw_and1 (at_cmp (op_NotIn (hr66 hr)) (av 14) (av 7) rfl)))) (ss_one (s_set (i := 7) sc__law_rules.nd rfl (by first | exact Or.inl rfl | exact Or.inr rfl) (a_op op_Add (a_lst (aa_cons (av 14) aa_nil)) (av 7)))) ss_nil)
      (ss_one (s_ret (a_callTy (c_tuple rfl) rfl T.m_tuple (by decide +kernel) (aa_cons (a_sl (a_comp (own := [("_law_rule", 15)]) (t := (gName 15)) rfl sc__law_rules.nd (i_any (av 7)) (blkOk_by rfl) (cg_name (by decide)) (fun _ _ _ _ _ => (pg_name (i := 15) sc__law_rules.nd rfl (by first | exact Or.inl rfl | exact Or.inr rfl))) (fun _ _ _ _ _ => (ats_one (at_cmp op_Le (a_callB c_len rfl T.m_len (by decide +kernel) (aa_cons (a_op op_Add (a_ix (hr1 hr) (av 15) a_int (fun _ _ => rfl)) (a_ix (hr1 hr) (av 15) a_int (fun _ _ => rfl))) aa_nil)) (av 3) (nomark _)))) (fun _ _ _ _ _ => (av 15))) ao_none (ao_some (av 2))) aa_nil))))))))))))))))
theorem bi__law_rules {K : PySem.W.Frag} {f : Addr} {fd : FuncData} (F : FunD K "_law_rules" "_law_rules" (defArgs s__law_rules) (defBody s__law_rules) (defScope s__law_rules) [] [] f fd) : Binds K fd ["_law_row_here", "_law_name", "_law_most", "_law_longest"] [] := F.bindsN (fun _ _ _ _ _ _ us hl => match us, hl with | [_, _, _, _], _ => rfl)
theorem k__law_rules {P : Program} {w : World} {K : PySem.W.Frag} {mg : Str → Option Value} {base : Heap} {f : Addr} {fd : FuncData} (T : Facts mg) (F : FunD K "_law_rules" "_law_rules" (defArgs s__law_rules) (defBody s__law_rules) (defScope s__law_rules) [] [] f fd)  (F__law_grown : FnA P w K mg base 2 5 "_law_grown" [] m__law_grown) (F__law_take : FnA P w K mg base 1 2 "_law_take" [] m__law_take) (F__law_word : FnA P w K mg base 1 2 "_law_word" [] m__law_word)  :
    FnOk P w K mg base (L2.CX P w) (2 + 1) f fd ["_law_row_here", "_law_name", "_law_most", "_law_longest"] (spA K (["_law_row_here", "_law_name", "_law_most", "_law_longest"] : List Str).length (fnRes (["_law_row_here", "_law_name", "_law_most", "_law_longest", "_law_plans", "_law_sign", "_law_plan", "_law_rules_here", "_law_word_here", "_law_pair", "_law_mode", "_law_many", "_law_k", "_law_signs", "_law_stray", "_law_rule"] : List Str).length b__law_rules)) :=
  fn_ok F sc__law_rules (fun cdv A outer s H E hr => w__law_rules T  F__law_grown F__law_take F__law_word hr)
theorem ok__law_rules {P : Program} {w : World} {K : PySem.W.Frag} {mg : Str → Option Value} {base : Heap} {f : Addr} {fd : FuncData} (T : Facts mg) (F : FunD K "_law_rules" "_law_rules" (defArgs s__law_rules) (defBody s__law_rules) (defScope s__law_rules) [] [] f fd) (gl : mg "_law_rules" = some (.ref f)) (F__law_grown : FnA P w K mg base 2 5 "_law_grown" [] m__law_grown) (F__law_take : FnA P w K mg base 1 2 "_law_take" [] m__law_take) (F__law_word : FnA P w K mg base 1 2 "_law_word" [] m__law_word)  : FnA P w K mg base 3 4 "_law_rules" [] m__law_rules := by
  have h := k__law_rules (P := P) (w := w) (mg := mg) (base := base) T F F__law_grown F__law_take F__law_word
  exact ⟨f, fd, _, [], [], h, gl, F.kp, bi__law_rules F, .nil, fun _ _ => .nil⟩
abbrev s__law_manner : Stmt := topS 12
theorem sc__law_manner : FnScope ["_law_row_here"] ["_law_row_here"] (defScope s__law_manner) := ⟨rfl, rfl, rfl, by decide +kernel, rfl, by decide +kernel, by decide +kernel⟩
noncomputable def b__law_manner : FS :=
  (mRet (mBin oIx (mTup (mCons (mC (.str "ranked")) (mCons (mC (.str "rightranked")) (mCons (mC (.str "leftmost")) (mCons (mC (.str "rightmost")) (mCons (mC (.str "once")) mNil)))))) (mFn 2 m__law_take [] (mCons (mVar 0) (mCons (mC (.int 5)) mNil)))))
noncomputable def m__law_manner : List W → Store → Res W := fnRes 1 b__law_manner
theorem w__law_manner {P : Program} {w : World} {K : PySem.W.Frag} {mg : Str → Option Value} {base : Heap} {f : Addr} {cdv : Value} {A : Around} {outer : List Env} {s : Shared} {H : Hp} {E : XK} (T : Facts mg)  (F__law_take : FnA P w K mg base 1 2 "_law_take" [] m__law_take)  (hr : Room 1 (A.deeper (envOfC "_law_manner" (defScope s__law_manner) s.heap.objs.size f cdv))) :
    ASs (cxOf (L2.CX P w) P w K mg base ["_law_row_here"] "_law_manner" (defScope s__law_manner) f cdv A outer s H E) (wxOf E) (defBody s__law_manner) b__law_manner :=
  (ss_one (s_ret (a_ix (hr1 hr) (a_tup (aa_cons a_str (aa_cons a_str (aa_cons a_str (aa_cons a_str (aa_cons a_str aa_nil)))))) (a_fn F__law_take hr (by decide) rfl (takes_of rfl rfl rfl rfl) (aa_cons (av 0) (aa_cons a_int aa_nil))) (fun _ _ => rfl))))
theorem bi__law_manner {K : PySem.W.Frag} {f : Addr} {fd : FuncData} (F : FunD K "_law_manner" "_law_manner" (defArgs s__law_manner) (defBody s__law_manner) (defScope s__law_manner) [] [] f fd) : Binds K fd ["_law_row_here"] [] := F.bindsN (fun _ _ _ _ _ _ us hl => match us, hl with | [_], _ => rfl)
theorem k__law_manner {P : Program} {w : World} {K : PySem.W.Frag} {mg : Str → Option Value} {base : Heap} {f : Addr} {fd : FuncData} (T : Facts mg) (F : FunD K "_law_manner" "_law_manner" (defArgs s__law_manner) (defBody s__law_manner) (defScope s__law_manner) [] [] f fd)  (F__law_take : FnA P w K mg base 1 2 "_law_take" [] m__law_take)  :
    FnOk P w K mg base (L2.CX P w) (1 + 1) f fd ["_law_row_here"] (spA K (["_law_row_here"] : List Str).length (fnRes (["_law_row_here"] : List Str).length b__law_manner)) :=
  fn_ok F sc__law_manner (fun cdv A outer s H E hr => w__law_manner T  F__law_take hr)
theorem ok__law_manner {P : Program} {w : World} {K : PySem.W.Frag} {mg : Str → Option Value} {base : Heap} {f : Addr} {fd : FuncData} (T : Facts mg) (F : FunD K "_law_manner" "_law_manner" (defArgs s__law_manner) (defBody s__law_manner) (defScope s__law_manner) [] [] f fd) (gl : mg "_law_manner" = some (.ref f)) (F__law_take : FnA P w K mg base 1 2 "_law_take" [] m__law_take)  : FnA P w K mg base 2 1 "_law_manner" [] m__law_manner := by
  have h := k__law_manner (P := P) (w := w) (mg := mg) (base := base) T F F__law_take
  exact ⟨f, fd, _, [], [], h, gl, F.kp, bi__law_manner F, .nil, fun _ _ => .nil⟩
abbrev s__law_table : Stmt := topS 13
theorem sc__law_table : FnScope ["_law_row_here", "_law_most", "_law_longest", "_law_names", "_law_name", "_law_manner_here"] ["_law_row_here", "_law_most", "_law_longest"] (defScope s__law_table) := ⟨rfl, rfl, rfl, by decide +kernel, rfl, by decide +kernel, by decide +kernel⟩
noncomputable def b__law_table : FS :=
  (mSeq (mAsg (mLst (mCons (mC (.str "ab")) (mCons (mC (.str "a")) (mCons (mC (.str "abc")) (mCons (mC (.str "zm")) (mCons (mC (.str "q")) (mCons (mC (.str "zay")) (mCons (mC (.str "pq")) (mCons (mC (.str "mxb")) (mCons (mC (.str "dbca")) (mCons (mC (.str "ba")) mNil))))))))))) (gSet 3))
  (mSeq (mAsg (mBin oIx (mVar 3) (mFn 2 m__law_take [] (mCons (mVar 0) (mCons (mC (.int 10)) mNil)))) (gSet 4))
  (mSeq (mAsg (mFn 1 m__law_manner [] (mCons (mVar 0) mNil)) (gSet 5))
  (mRet (mTup (mCons (mCall oTuple (mCons (mCall oSorted (mCons (mVar 4) mNil)) mNil)) (mCons (mFn 4 m__law_rules [] (mCons (mVar 0) (mCons (mVar 4) (mCons (mVar 1) (mCons (mVar 2) mNil))))) (mCons (mVar 5) mNil))))))))
noncomputable def m__law_table : List W → Store → Res W := fnRes 6 b__law_table
theorem w__law_table {P : Program} {w : World} {K : PySem.W.Frag} {mg : Str → Option Value} {base : Heap} {f : Addr} {cdv : Value} {A : Around} {outer : List Env} {s : Shared} {H : Hp} {E : XK} (T : Facts mg)  (F__law_manner : FnA P w K mg base 2 1 "_law_manner" [] m__law_manner) (F__law_rules : FnA P w K mg base 3 4 "_law_rules" [] m__law_rules) (F__law_take : FnA P w K mg base 1 2 "_law_take" [] m__law_take)  (hr : Room 3 (A.deeper (envOfC "_law_table" (defScope s__law_table) s.heap.objs.size f cdv))) :
    ASs (cxOf (L2.CX P w) P w K mg base ["_law_row_here", "_law_most", "_law_longest", "_law_names", "_law_name", "_law_manner_here"] "_law_table" (defScope s__law_table) f cdv A outer s H E) (wxOf E) (defBody s__law_table) b__law_table :=
  (ss_cons (s_set (i := 3) sc__law_table.nd rfl (by first | exact Or.inl rfl | exact Or.inr rfl) (a_lst (aa_cons a_str (aa_cons a_str (aa_cons a_str (aa_cons a_str (aa_cons a_str (aa_cons a_str (aa_cons a_str (aa_cons a_str (aa_cons a_str (aa_cons a_str aa_nil))))))))))))
      (ss_cons (s_set (i := 4) sc__law_table.nd rfl (by first | exact Or.inl rfl | exact Or.inr rfl) (a_ix (hr1 hr) (av 3) (a_fn F__law_take hr (by decide) rfl (takes_of rfl rfl rfl rfl) (aa_cons (av 0) (aa_cons a_int aa_nil))) (fun _ _ => rfl)))
      (ss_cons (s_set (i := 5) sc__law_table.nd rfl (by first | exact Or.inl rfl | exact Or.inr rfl) (a_fn F__law_manner hr (by decide) rfl (takes_of rfl rfl rfl rfl) (aa_cons (av 0) aa_nil)))
      (ss_one (s_ret (a_tup (aa_cons (a_callTy (c_tuple rfl) rfl T.m_tuple (by decide +kernel) (aa_cons (a_callB (c_sorted rfl) rfl T.m_sorted (by decide +kernel) (aa_cons (av 4) aa_nil)) aa_nil)) (aa_cons (a_fn F__law_rules hr (by decide) rfl (takes_of rfl rfl rfl rfl) (aa_cons (av 0) (aa_cons (av 4) (aa_cons (av 1) (aa_cons (av 2) aa_nil))))) (aa_cons (av 5) aa_nil)))))))))
theorem bi__law_table {K : PySem.W.Frag} {f : Addr} {fd : FuncData} (F : FunD K "_law_table" "_law_table" (defArgs s__law_table) (defBody s__law_table) (defScope s__law_table) [] [] f fd) : Binds K fd ["_law_row_here", "_law_most", "_law_longest"] [] := F.bindsN (fun _ _ _ _ _ _ us hl => match us, hl with | [_, _, _], _ => rfl)
theorem k__law_table {P : Program} {w : World} {K : PySem.W.Frag} {mg : Str → Option Value} {base : Heap} {f : Addr} {fd : FuncData} (T : Facts mg) (F : FunD K "_law_table" "_law_table" (defArgs s__law_table) (defBody s__law_table) (defScope s__law_table) [] [] f fd)  (F__law_manner : FnA P w K mg base 2 1 "_law_manner" [] m__law_manner) (F__law_rules : FnA P w K mg base 3 4 "_law_rules" [] m__law_rules) (F__law_take : FnA P w K mg base 1 2 "_law_take" [] m__law_take)  :
    FnOk P w K mg base (L2.CX P w) (3 + 1) f fd ["_law_row_here", "_law_most", "_law_longest"] (spA K (["_law_row_here", "_law_most", "_law_longest"] : List Str).length (fnRes (["_law_row_here", "_law_most", "_law_longest", "_law_names", "_law_name", "_law_manner_here"] : List Str).length b__law_table)) :=
  fn_ok F sc__law_table (fun cdv A outer s H E hr => w__law_table T  F__law_manner F__law_rules F__law_take hr)
theorem ok__law_table {P : Program} {w : World} {K : PySem.W.Frag} {mg : Str → Option Value} {base : Heap} {f : Addr} {fd : FuncData} (T : Facts mg) (F : FunD K "_law_table" "_law_table" (defArgs s__law_table) (defBody s__law_table) (defScope s__law_table) [] [] f fd) (gl : mg "_law_table" = some (.ref f)) (F__law_manner : FnA P w K mg base 2 1 "_law_manner" [] m__law_manner) (F__law_rules : FnA P w K mg base 3 4 "_law_rules" [] m__law_rules) (F__law_take : FnA P w K mg base 1 2 "_law_take" [] m__law_take)  : FnA P w K mg base 4 3 "_law_table" [] m__law_table := by
  have h := k__law_table (P := P) (w := w) (mg := mg) (base := base) T F F__law_manner F__law_rules F__law_take
  exact ⟨f, fd, _, [], [], h, gl, F.kp, bi__law_table F, .nil, fun _ _ => .nil⟩
abbrev s__law_made : Stmt := topS 14
theorem sc__law_made : FnScope ["_law_tab", "_law_made_here", "_law_k", "_law_left", "_law_right"] ["_law_tab"] (defScope s__law_made) := ⟨rfl, rfl, rfl, by decide +kernel, rfl, by decide +kernel, by decide +kernel⟩
noncomputable def b__law_made : FS :=
  (mSeq (mAsg (mCall oListXR (mCons (mBin oIx (mVar 0) (mC (.int 0))) mNil)) (gSet 1))
  (mSeq (mFor (mRng1 (mCons (mCall oLen (mCons (mBin oIx (mVar 0) (mC (.int 1))) mNil)) mNil)) (gSet 2) (mFor (mWk (mBin oIx (mVar 0) (mC (.int 1)))) (gTupW 2 (gConsW (gSet 3) (gConsW (gSet 4) gNilW))) (mIfS (mAnd (mTest (mBin oIn (mVar 3) (mVar 1))) (mAnd (mTest (mBin oIn (mVar 4) (mVar 1))) (mTest (mBin oNotIn (mBin oAdd (mVar 3) (mVar 4)) (mVar 1))))) (mExpr (mMeth "list" oAppend (mVar 1) (mCons (mBin oAdd (mVar 3) (mVar 4)) mNil))) mSkip)))
  (mRet (mCall oSorted (mCons (mVar 1) mNil)))))
noncomputable def m__law_made : List W → Store → Res W := fnRes 5 b__law_made
theorem w__law_made {P : Program} {w : World} {K : PySem.W.Frag} {mg : Str → Option Value} {base : Heap} {f : Addr} {cdv : Value} {A : Around} {outer : List Env} {s : Shared} {H : Hp} {E : XK} (T : Facts mg)    (hr : Room 0 (A.deeper (envOfC "_law_made" (defScope s__law_made) s.heap.objs.size f cdv))) :
    ASs (cxOf (L2.CX P w) P w K mg base ["_law_tab", "_law_made_here", "_law_k", "_law_left", "_law_right"] "_law_made" (defScope s__law_made) f cdv A outer s H E) (wxOf E) (defBody s__law_made) b__law_made :=
  (ss_cons (s_set (i := 1) sc__law_made.nd rfl (by first | exact Or.inl rfl | exact Or.inr rfl) (a_callTy (c_listXR rfl) rfl T.m_list (by decide +kernel) (aa_cons (a_ix (hr1 hr) (av 0) a_int (fun _ _ => rfl)) aa_nil)))
      (ss_cons (s_for (passes_of rfl) rfl (i_range1 rfl T.m_range (aa_cons (a_callB c_len rfl T.m_len (by decide +kernel) (aa_cons (a_ix (hr1 hr) (av 0) a_int (fun _ _ => rfl)) aa_nil)) aa_nil)) (g_name (i := 2) sc__law_made.nd rfl (by first | exact Or.inl rfl | exact Or.inr rfl)) (ss_one (s_for (passes_of rfl) rfl (i_any (a_ix (hr1 hr) (av 0) a_int (fun _ _ => rfl))) (g_tup rfl (gs_cons (g_name (i := 3) sc__law_made.nd rfl (by first | exact Or.inl rfl | exact Or.inr rfl)) (gs_cons (g_name (i := 4) sc__law_made.nd rfl (by first | exact Or.inl rfl | exact Or.inr rfl)) gs_nil))) (ss_one (s_if (AW.at (aw_and (at_cmp (op_In (hr66 hr)) (av 3) (av 1) rfl) (aw_and (at_cmp (op_In (hr66 hr)) (av 4) (av 1) rfl) (aw_and1 (at_cmp (op_NotIn (hr66 hr)) (a_op op_Add (av 3) (av 4)) (av 1) rfl))))) (ss_one (s_expr (a_meth PySem.F.plainAttrs_list PySem.F.slot_list_append PySem.F.type_list_append m_append (av 1) (aa_cons (a_op op_Add (av 3) (av 4)) aa_nil)))) ss_nil)))))
      (ss_one (s_ret (a_callB (c_sorted rfl) rfl T.m_sorted (by decide +kernel) (aa_cons (av 1) aa_nil))))))
theorem bi__law_made {K : PySem.W.Frag} {f : Addr} {fd : FuncData} (F : FunD K "_law_made" "_law_made" (defArgs s__law_made) (defBody s__law_made) (defScope s__law_made) [] [] f fd) : Binds K fd ["_law_tab"] [] := F.bindsN (fun _ _ _ _ _ _ us hl => match us, hl with | [_], _ => rfl)
theorem k__law_made {P : Program} {w : World} {K : PySem.W.Frag} {mg : Str → Option Value} {base : Heap} {f : Addr} {fd : FuncData} (T : Facts mg) (F : FunD K "_law_made" "_law_made" (defArgs s__law_made) (defBody s__law_made) (defScope s__law_made) [] [] f fd)    :
    FnOk P w K mg base (L2.CX P w) (0 + 1) f fd ["_law_tab"] (spA K (["_law_tab"] : List Str).length (fnRes (["_law_tab", "_law_made_here", "_law_k", "_law_left", "_law_right"] : List Str).length b__law_made)) :=
  fn_ok F sc__law_made (fun cdv A outer s H E hr => w__law_made T   hr)
theorem ok__law_made {P : Program} {w : World} {K : PySem.W.Frag} {mg : Str → Option Value} {base : Heap} {f : Addr} {fd : FuncData} (T : Facts mg) (F : FunD K "_law_made" "_law_made" (defArgs s__law_made) (defBody s__law_made) (defScope s__law_made) [] [] f fd) (gl : mg "_law_made" = some (.ref f))   : FnA P w K mg base 1 1 "_law_made" [] m__law_made := by
  have h := k__law_made (P := P) (w := w) (mg := mg) (base := base) T F 
  exact ⟨f, fd, _, [], [], h, gl, F.kp, bi__law_made F, .nil, fun _ _ => .nil⟩
abbrev s__law_ends : Stmt := topS 15
theorem sc__law_ends : FnScope ["_law_rules_here", "_law_line", "_law_waiting", "_law_seen", "_law_ends_here", "_law_cells", "_law_places", "_law_k"] ["_law_rules_here", "_law_line"] (defScope s__law_ends) := ⟨rfl, rfl, rfl, by decide +kernel, rfl, by decide +kernel, by decide +kernel⟩
noncomputable def b__law_ends : FS :=
  (mSeq (mPar3 2 3 4 (mCons (mLstR (mCons (mCall oTuple (mCons (mVar 1) mNil)) mNil)) (mCons mDictT (mCons (mLstR mNil) mNil))))
  (mSeq (mWhile 1000000 (mTest (mBin oNe (mVar 2) (mLst mNil))) (mSeq (mAsg (mMeth0 "list" oPop (mVar 2)) (gSet 5))
  (mIfS (mTest (mBin oNotIn (mVar 5) (mVar 3))) (mSeq (mAsg (mC (.bl true)) (gPut (mVar 3) (mVar 5)))
  (mSeq (mAsg (mComp [7] (mRng1 (mCons (mBin oSub (mCall oLen (mCons (mVar 5) mNil)) (mC (.int 1))) mNil)) (cName 7) (mTest (mBin oIn (mTup (mCons (mBin oIx (mVar 5) (mVar 7)) (mCons (mBin oIx (mVar 5) (mBin oAdd (mVar 7) (mC (.int 1)))) mNil))) (mVar 0))) (mVar 7)) (gSet 6))
  (mSeq (mExpr (mMeth "list" oExtend (mVar 2) (mCons (mComp [7] (mWk (mVar 6)) (cName 7) mYes (mBin oAdd (mBin oAdd (mSl (mVar 5) mNoPart (mPart (mVar 7))) (mTup (mCons (mBin oAdd (mBin oIx (mVar 5) (mVar 7)) (mBin oIx (mVar 5) (mBin oAdd (mVar 7) (mC (.int 1))))) mNil))) (mSl (mVar 5) (mPart (mBin oAdd (mVar 7) (mC (.int 2)))) mNoPart))) mNil)))
  (mIfS (mTest (mBin oEq (mVar 6) (mLst mNil))) (mExpr (mMeth "list" oAppend (mVar 4) (mCons (mVar 5) mNil))) mSkip)))) mSkip)))
  (mRet (mCall oTuple (mCons (mCall oSorted (mCons (mVar 4) mNil)) mNil)))))
noncomputable def m__law_ends : List W → Store → Res W := fnRes 8 b__law_ends
theorem w__law_ends {P : Program} {w : World} {K : PySem.W.Frag} {mg : Str → Option Value} {base : Heap} {f : Addr} {cdv : Value} {A : Around} {outer : List Env} {s : Shared} {H : Hp} {E : XK} (T : Facts mg)    (hr : Room 0 (A.deeper (envOfC "_law_ends" (defScope s__law_ends) s.heap.objs.size f cdv))) :
    ASs (cxOf (L2.CX P w) P w K mg base ["_law_rules_here", "_law_line", "_law_waiting", "_law_seen", "_law_ends_here", "_law_cells", "_law_places", "_law_k"] "_law_ends" (defScope s__law_ends) f cdv A outer s H E) (wxOf E) (defBody s__law_ends) b__law_ends :=
  (ss_cons (s_par3 (i := 2) (j := 3) (l := 4) rfl sc__law_ends.nd rfl rfl rfl (by decide) (by decide) (by decide) rfl rfl rfl (aa_cons (a_lstR (aa_cons (a_callTy (c_tuple rfl) rfl T.m_tuple (by decide +kernel) (aa_cons (av 1) aa_nil)) aa_nil)) (aa_cons a_dictT (aa_cons (a_lstR aa_nil) aa_nil))) rfl)
      (ss_cons (s_while 1000000 (passes_of rfl) (at_cmp (op_Ne (hr64 hr)) (av 2) (a_lst aa_nil) (nomark _)) (ss_cons (s_set (i := 5) sc__law_ends.nd rfl (by first | exact Or.inl rfl | exact Or.inr rfl) (a_meth0 PySem.F.plainAttrs_list PySem.F.slot_list_pop PySem.F.type_list_pop m_pop (av 2)))
      (ss_one (s_if (at_cmp (op_NotIn (hr66 hr)) (av 5) (av 3) rfl) (ss_cons (s_asg a_bl (g_put (hr1 hr) (av 3) (av 5)))
      (ss_cons (s_setComp (i := 6) (own := [("_law_k", 7)]) (t := (gName 7)) rfl sc__law_ends.nd rfl rfl (sw_true rfl rfl rfl (by decide +kernel)) (i_range1 rfl T.m_range (aa_cons (a_op op_Sub (a_callB c_len rfl T.m_len (by decide +kernel) (aa_cons (av 5) aa_nil)) a_int) aa_nil)) (blkOk_by rfl) (cg_name (by decide)) (fun _ _ _ _ _ => (pg_name (i := 7) sc__law_ends.nd rfl (by first | exact Or.inl rfl | exact Or.inr rfl))) (fun _ _ _ _ _ => (ats_one (at_cmp (op_In (hr66 hr)) (a_tup (aa_cons (a_ix (hr1 hr) (av 5) (av 7) (fun _ _ => rfl)) (aa_cons (a_ix (hr1 hr) (av 5) (a_op op_Add (av 7) a_int) (fun _ _ => rfl)) aa_nil))) (av 0) rfl))) (fun _ _ _ _ _ => (av 7)))
      (ss_cons (s_expr (a_meth PySem.F.plainAttrs_list PySem.F.slot_list_extend PySem.F.type_list_extend m_extend (av 2) (aa_cons (a_comp (own := [("_law_k", 7)]) (t := (gName 7)) rfl sc__law_ends.nd (i_any (av 6)) (blkOk_by rfl) (cg_name (by decide)) (fun _ _ _ _ _ => (pg_name (i := 7) sc__law_ends.nd rfl (by first | exact Or.inl rfl | exact Or.inr rfl))) (fun _ _ _ _ _ => ats_nil) (fun _ _ _ _ _ => (a_op op_Add (a_op op_Add (a_sl (av 5) ao_none (ao_some (av 7))) (a_tup (aa_cons (a_op op_Add (a_ix (hr1 hr) (av 5) (av 7) (fun _ _ => rfl)) (a_ix (hr1 hr) (av 5) (a_op op_Add (av 7) a_int) (fun _ _ => rfl))) aa_nil))) (a_sl (av 5) (ao_some (a_op op_Add (av 7) a_int)) ao_none)))) aa_nil)))
      (ss_one (s_if (at_cmp (op_Eq (hr64 hr)) (av 6) (a_lst aa_nil) (nomark _)) (ss_one (s_expr (a_meth PySem.F.plainAttrs_list PySem.F.slot_list_append PySem.F.type_list_append m_append (av 4) (aa_cons (av 5) aa_nil)))) ss_nil))))) ss_nil))))
      (ss_one (s_ret (a_callTy (c_tuple rfl) rfl T.m_tuple (by decide +kernel) (aa_cons (a_callB (c_sorted rfl) rfl T.m_sorted (by decide +kernel) (aa_cons (av 4) aa_nil)) aa_nil))))))
theorem bi__law_ends {K : PySem.W.Frag} {f : Addr} {fd : FuncData} (F : FunD K "_law_ends" "_law_ends" (defArgs s__law_ends) (defBody s__law_ends) (defScope s__law_ends) [] [] f fd) : Binds K fd ["_law_rules_here", "_law_line"] [] := F.bindsN (fun _ _ _ _ _ _ us hl => match us, hl with | [_, _], _ => rfl)
theorem k__law_ends {P : Program} {w : World} {K : PySem.W.Frag} {mg : Str → Option Value} {base : Heap} {f : Addr} {fd : FuncData} (T : Facts mg) (F : FunD K "_law_ends" "_law_ends" (defArgs s__law_ends) (defBody s__law_ends) (defScope s__law_ends) [] [] f fd)    :
    FnOk P w K mg base (L2.CX P w) (0 + 1) f fd ["_law_rules_here", "_law_line"] (spA K (["_law_rules_here", "_law_line"] : List Str).length (fnRes (["_law_rules_here", "_law_line", "_law_waiting", "_law_seen", "_law_ends_here", "_law_cells", "_law_places", "_law_k"] : List Str).length b__law_ends)) :=
  fn_ok F sc__law_ends (fun cdv A outer s H E hr => w__law_ends T   hr)
theorem ok__law_ends {P : Program} {w : World} {K : PySem.W.Frag} {mg : Str → Option Value} {base : Heap} {f : Addr} {fd : FuncData} (T : Facts mg) (F : FunD K "_law_ends" "_law_ends" (defArgs s__law_ends) (defBody s__law_ends) (defScope s__law_ends) [] [] f fd) (gl : mg "_law_ends" = some (.ref f))   : FnA P w K mg base 1 2 "_law_ends" [] m__law_ends := by
  have h := k__law_ends (P := P) (w := w) (mg := mg) (base := base) T F 
  exact ⟨f, fd, _, [], [], h, gl, F.kp, bi__law_ends F, .nil, fun _ _ => .nil⟩
abbrev s__law_same : Stmt := topS 16
theorem sc__law_same : FnScope ["_law_told", "_law_due", "_law_k"] ["_law_told", "_law_due"] (defScope s__law_same) := ⟨rfl, rfl, rfl, by decide +kernel, rfl, by decide +kernel, by decide +kernel⟩
noncomputable def b__law_same (r_ : List W → Store → Res W) : FS :=
  (mSeq (mIfS (mTest (mIsi "tuple" (mVar 1))) (mSeq (mIfS (mOr (mNot (mTest (mIsi "tuple" (mVar 0)))) (mTest (mBin oNe (mCall oLen (mCons (mVar 0) mNil)) (mCall oLen (mCons (mVar 1) mNil))))) (mRet (mC (.bl false))) mSkip)
  (mRet (mCall oAll (mCons (mComp [2] (mRng1 (mCons (mCall oLen (mCons (mVar 1) mNil)) mNil)) (cName 2) mYes (mFn 2 r_ [] (mCons (mBin oIx (mVar 0) (mVar 2)) (mCons (mBin oIx (mVar 1) (mVar 2)) mNil)))) mNil)))) mSkip)
  (mSeq (mIfS (mTest (mBin oIs (mVar 1) (mC .non))) (mRet (mBin oIs (mVar 0) (mC .non))) mSkip)
  (mSeq (mIfS (mOr (mTest (mIsi "bool" (mVar 1))) (mTest (mIsi "bool" (mVar 0)))) (mRet (mAndV (mIsi "bool" (mVar 1)) (mAndV (mIsi "bool" (mVar 0)) (mBin oEq (mVar 0) (mVar 1))))) mSkip)
  (mSeq (mIfS (mTest (mIsi "int" (mVar 1))) (mRet (mAndV (mIsi "int" (mVar 0)) (mBin oEq (mVar 0) (mVar 1)))) mSkip)
  (mRet (mAndV (mIsi "str" (mVar 0)) (mBin oEq (mVar 0) (mVar 1))))))))
noncomputable def m__law_same : Nat → List W → Store → Res W
  | 0 => noFn
  | d + 1 => fnRes 3 (b__law_same (m__law_same d))
theorem w__law_same {P : Program} {w : World} {K : PySem.W.Frag} {mg : Str → Option Value} {base : Heap} {f : Addr} {cdv : Value} {A : Around} {outer : List Env} {s : Shared} {H : Hp} {E : XK} (T : Facts mg) {d : Nat} {r_ : List W → Store → Res W} (F_self : FnA P w K mg base (0 + d) 2 "_law_same" [] r_)   (hr : Room (0 + d) (A.deeper (envOfC "_law_same" (defScope s__law_same) s.heap.objs.size f cdv))) :
    ASs (cxOf (L2.CX P w) P w K mg base ["_law_told", "_law_due", "_law_k"] "_law_same" (defScope s__law_same) f cdv A outer s H E) (wxOf E) (defBody s__law_same) (b__law_same r_) :=
  (ss_cons (s_if (at_val (a_isi (T := "tuple") rfl T.m_isinstance rfl T.m_tuple (by decide +kernel) (av 1))) (ss_cons (s_if (AW.at (aw_or (at_not (at_val (a_isi (T := "tuple") rfl T.m_isinstance rfl T.m_tuple (by decide +kernel) (av 0)))) (aw_or1 (at_cmp (op_Ne (hr64 hr)) (a_callB c_len rfl T.m_len (by decide +kernel) (aa_cons (av 0) aa_nil)) (a_callB c_len rfl T.m_len (by decide +kernel) (aa_cons (av 1) aa_nil)) (nomark _))))) (ss_one (s_ret a_bl)) ss_nil)
      (ss_one (s_ret (a_callB (c_all rfl) rfl T.m_all (by decide +kernel) (aa_cons (a_comp (own := [("_law_k", 2)]) (t := (gName 2)) rfl sc__law_same.nd (i_range1 rfl T.m_range (aa_cons (a_callB c_len rfl T.m_len (by decide +kernel) (aa_cons (av 1) aa_nil)) aa_nil)) (blkOk_by rfl) (cg_name (by decide)) (fun _ _ _ _ _ => (pg_name (i := 2) sc__law_same.nd rfl (by first | exact Or.inl rfl | exact Or.inr rfl))) (fun _ _ _ _ _ => ats_nil) (fun _ _ _ _ _ => (a_fn F_self hr (Nat.le_refl _) rfl takes0 (aa_cons (a_ix (hr1 hr) (av 0) (av 2) (fun _ _ => rfl)) (aa_cons (a_ix (hr1 hr) (av 1) (av 2) (fun _ _ => rfl)) aa_nil))))) aa_nil))))) ss_nil)
      (ss_cons (s_if (at_cmp op_Is (av 1) a_non (nomark _)) (ss_one (s_ret (a_cmp op_Is (av 0) a_non (nomark _)))) ss_nil)
      (ss_cons (s_if (AW.at (aw_or (at_val (a_isi (T := "bool") rfl T.m_isinstance rfl T.m_bool (by decide +kernel) (av 1))) (aw_or1 (at_val (a_isi (T := "bool") rfl T.m_isinstance rfl T.m_bool (by decide +kernel) (av 0)))))) (ss_one (s_ret (a_and (a_isi (T := "bool") rfl T.m_isinstance rfl T.m_bool (by decide +kernel) (av 1)) (a_and (a_isi (T := "bool") rfl T.m_isinstance rfl T.m_bool (by decide +kernel) (av 0)) (a_one (a_cmp (op_Eq (hr64 hr)) (av 0) (av 1) (nomark _))))))) ss_nil)
      (ss_cons (s_if (at_val (a_isi (T := "int") rfl T.m_isinstance rfl T.m_int (by decide +kernel) (av 1))) (ss_one (s_ret (a_and (a_isi (T := "int") rfl T.m_isinstance rfl T.m_int (by decide +kernel) (av 0)) (a_one (a_cmp (op_Eq (hr64 hr)) (av 0) (av 1) (nomark _)))))) ss_nil)
      (ss_one (s_ret (a_and (a_isi (T := "str") rfl T.m_isinstance rfl T.m_str (by decide +kernel) (av 0)) (a_one (a_cmp (op_Eq (hr64 hr)) (av 0) (av 1) (nomark _))))))))))
theorem bi__law_same {K : PySem.W.Frag} {f : Addr} {fd : FuncData} (F : FunD K "_law_same" "_law_same" (defArgs s__law_same) (defBody s__law_same) (defScope s__law_same) [] [] f fd) : Binds K fd ["_law_told", "_law_due"] [] := F.bindsN (fun _ _ _ _ _ _ us hl => match us, hl with | [_, _], _ => rfl)
theorem k__law_same {P : Program} {w : World} {K : PySem.W.Frag} {mg : Str → Option Value} {base : Heap} {f : Addr} {fd : FuncData} (T : Facts mg) (F : FunD K "_law_same" "_law_same" (defArgs s__law_same) (defBody s__law_same) (defScope s__law_same) [] [] f fd) {d : Nat} {r_ : List W → Store → Res W} (F_self : FnA P w K mg base (0 + d) 2 "_law_same" [] r_)   :
    FnOk P w K mg base (L2.CX P w) ((0 + d) + 1) f fd ["_law_told", "_law_due"] (spA K (["_law_told", "_law_due"] : List Str).length (fnRes (["_law_told", "_law_due", "_law_k"] : List Str).length (b__law_same r_))) :=
  fn_ok F sc__law_same (fun cdv A outer s H E hr => w__law_same T F_self  hr)
theorem okd__law_same {P : Program} {w : World} {K : PySem.W.Frag} {mg : Str → Option Value} {base : Heap} {f : Addr} {fd : FuncData} (T : Facts mg) (F : FunD K "_law_same" "_law_same" (defArgs s__law_same) (defBody s__law_same) (defScope s__law_same) [] [] f fd) (gl : mg "_law_same" = some (.ref f))   : ∀ d : Nat, FnA P w K mg base (0 + d) 2 "_law_same" [] (m__law_same d)
  | 0 => fnA_no gl F.kp (bi__law_same F)
  | d + 1 => by
    have h := k__law_same (P := P) (w := w) (mg := mg) (base := base) T F (okd__law_same T F gl  d) 
    exact ⟨f, fd, _, [], [], h, gl, F.kp, bi__law_same F, .nil, fun _ _ => .nil⟩
theorem ok__law_same {P : Program} {w : World} {K : PySem.W.Frag} {mg : Str → Option Value} {base : Heap} {f : Addr} {fd : FuncData} (T : Facts mg) (F : FunD K "_law_same" "_law_same" (defArgs s__law_same) (defBody s__law_same) (defScope s__law_same) [] [] f fd) (gl : mg "_law_same" = some (.ref f))   : FnA P w K mg base 4 2 "_law_same" [] (m__law_same 4) := okd__law_same T F gl  4
abbrev s__law_text : Stmt := topS 17
theorem sc__law_text : FnScope ["_law_row_here", "_law_tab", "_law_blocks", "_law_line", "_law_left", "_law_right", "_law_k", "_law_block"] ["_law_row_here", "_law_tab"] (defScope s__law_text) := ⟨rfl, rfl, rfl, by decide +kernel, rfl, by decide +kernel, by decide +kernel⟩
noncomputable def b__law_text : FS :=
  (mSeq (mPar 2 3 (mCons (mCall oListXR (mCons (mBin oIx (mVar 1) (mC (.int 0))) mNil)) (mCons (mC (.str "")) mNil)))
  (mSeq (mAug 2 oIAdd (mComp [4, 5] (mWk (mBin oIx (mVar 1) (mC (.int 1)))) (cTup 2 (cCons (cName 4) (cCons (cName 5) cNil))) mYes (mBin oAdd (mVar 4) (mVar 5))))
  (mSeq (mFor (mRng1 (mCons (mC (.int 8)) mNil)) (gSet 6) (mSeq (mAsg (mBin oIx (mVar 2) (mFn 2 m__law_take [] (mCons (mVar 0) (mCons (mCall oLen (mCons (mVar 2) mNil)) mNil)))) (gSet 7))
  (mIfS (mTest (mBin oLe (mCall oLen (mCons (mBin oAdd (mVar 3) (mVar 7)) mNil)) (mC (.int 8)))) (mAsg (mBin oAdd (mVar 3) (mVar 7)) (gSet 3)) mSkip)))
  (mRet (mSl (mVar 3) (mPart (mFn 2 m__law_take [] (mCons (mVar 0) (mCons (mC (.int 3)) mNil)))) mNoPart)))))
noncomputable def m__law_text : List W → Store → Res W := fnRes 8 b__law_text
theorem w__law_text {P : Program} {w : World} {K : PySem.W.Frag} {mg : Str → Option Value} {base : Heap} {f : Addr} {cdv : Value} {A : Around} {outer : List Env} {s : Shared} {H : Hp} {E : XK} (T : Facts mg)  (F__law_take : FnA P w K mg base 1 2 "_law_take" [] m__law_take)  (hr : Room 1 (A.deeper (envOfC "_law_text" (defScope s__law_text) s.heap.objs.size f cdv))) :
    ASs (cxOf (L2.CX P w) P w K mg base ["_law_row_here", "_law_tab", "_law_blocks", "_law_line", "_law_left", "_law_right", "_law_k", "_law_block"] "_law_text" (defScope s__law_text) f cdv A outer s H E) (wxOf E) (defBody s__law_text) b__law_text :=
  (ss_cons (s_par (i := 2) (j := 3) rfl sc__law_text.nd rfl rfl (by decide) rfl rfl (aa_cons (a_callTy (c_listXR rfl) rfl T.m_list (by decide +kernel) (aa_cons (a_ix (hr1 hr) (av 1) a_int (fun _ _ => rfl)) aa_nil)) (aa_cons a_str aa_nil)) rfl)
      (ss_cons (s_aug (i := 2) sc__law_text.nd rfl (by first | exact Or.inl rfl | exact Or.inr rfl) (a_comp (own := [("_law_left", 4), ("_law_right", 5)]) (t := (gTup K 2 (gCons (gName 4) (gCons (gName 5) gNil)))) rfl sc__law_text.nd (i_any (a_ix (hr1 hr) (av 1) a_int (fun _ _ => rfl))) (blkOk_by rfl) (cg_tup (cgs_cons (cg_name (by decide)) (cgs_cons (cg_name (by decide)) cgs_nil))) (fun _ _ _ _ _ => (pg_tup rfl (pgs_cons (pg_name (i := 4) sc__law_text.nd rfl (by first | exact Or.inl rfl | exact Or.inr rfl)) (pgs_cons (pg_name (i := 5) sc__law_text.nd rfl (by first | exact Or.inl rfl | exact Or.inr rfl)) pgs_nil)))) (fun _ _ _ _ _ => ats_nil) (fun _ _ _ _ _ => (a_op op_Add (av 4) (av 5)))) (ip_of iop_Add))
      (ss_cons (s_for (passes_of rfl) rfl (i_range1 rfl T.m_range (aa_cons a_int aa_nil)) (g_name (i := 6) sc__law_text.nd rfl (by first | exact Or.inl rfl | exact Or.inr rfl)) (ss_cons (s_set (i := 7) sc__law_text.nd rfl (by first | exact Or.inl rfl | exact Or.inr rfl) (a_ix (hr1 hr) (av 2) (a_fn F__law_take hr (by decide) rfl (takes_of rfl rfl rfl rfl) (aa_cons (av 0) (aa_cons (a_callB c_len rfl T.m_len (by decide +kernel) (aa_cons (av 2) aa_nil)) aa_nil))) (fun _ _ => rfl)))
      (ss_one (s_if (at_cmp op_Le (a_callB c_len rfl T.m_len (by decide +kernel) (aa_cons (a_op op_Add (av 3) (av 7)) aa_nil)) a_int (nomark _)) (ss_one (s_set (i := 3) sc__law_text.nd rfl (by first | exact Or.inl rfl | exact Or.inr rfl) (a_op op_Add (av 3) (av 7)))) ss_nil))))
      (ss_one (s_ret (a_sl (av 3) (ao_some (a_fn F__law_take hr (by decide) rfl (takes_of rfl rfl rfl rfl) (aa_cons (av 0) (aa_cons a_int aa_nil)))) ao_none))))))
theorem bi__law_text {K : PySem.W.Frag} {f : Addr} {fd : FuncData} (F : FunD K "_law_text" "_law_text" (defArgs s__law_text) (defBody s__law_text) (defScope s__law_text) [] [] f fd) : Binds K fd ["_law_row_here", "_law_tab"] [] := F.bindsN (fun _ _ _ _ _ _ us hl => match us, hl with | [_, _], _ => rfl)
theorem k__law_text {P : Program} {w : World} {K : PySem.W.Frag} {mg : Str → Option Value} {base : Heap} {f : Addr} {fd : FuncData} (T : Facts mg) (F : FunD K "_law_text" "_law_text" (defArgs s__law_text) (defBody s__law_text) (defScope s__law_text) [] [] f fd)  (F__law_take : FnA P w K mg base 1 2 "_law_take" [] m__law_take)  :
    FnOk P w K mg base (L2.CX P w) (1 + 1) f fd ["_law_row_here", "_law_tab"] (spA K (["_law_row_here", "_law_tab"] : List Str).length (fnRes (["_law_row_here", "_law_tab", "_law_blocks", "_law_line", "_law_left", "_law_right", "_law_k", "_law_block"] : List Str).length b__law_text)) :=
  fn_ok F sc__law_text (fun cdv A outer s H E hr => w__law_text T  F__law_take hr)
theorem ok__law_text {P : Program} {w : World} {K : PySem.W.Frag} {mg : Str → Option Value} {base : Heap} {f : Addr} {fd : FuncData} (T : Facts mg) (F : FunD K "_law_text" "_law_text" (defArgs s__law_text) (defBody s__law_text) (defScope s__law_text) [] [] f fd) (gl : mg "_law_text" = some (.ref f)) (F__law_take : FnA P w K mg base 1 2 "_law_take" [] m__law_take)  : FnA P w K mg base 2 2 "_law_text" [] m__law_text := by
  have h := k__law_text (P := P) (w := w) (mg := mg) (base := base) T F F__law_take
  exact ⟨f, fd, _, [], [], h, gl, F.kp, bi__law_text F, .nil, fun _ _ => .nil⟩
abbrev s_law : Stmt := topS 18
theorem sc_law : FnScope ["_law_script", "_law_row_here", "_law_tab", "_law_texts", "_law_k", "_law_line", "_law_late"] ["_law_script"] (defScope s_law) := ⟨rfl, rfl, rfl, by decide +kernel, rfl, by decide +kernel, by decide +kernel⟩
noncomputable def b_law : FS :=
  (mSeq (mAsg (mFn 2 m__law_row [] (mCons (mVar 0) (mCons (mC (.int 110)) mNil))) (gSet 1))
  (mSeq (mAsg (mFn 3 m__law_table [] (mCons (mVar 1) (mCons (mC (.int 6)) (mCons (mC (.int 8)) mNil)))) (gSet 2))
  (mSeq (mIfS (mNot (mTest (mFn 2 (m__law_same 4) [] (mCons (mFn 1 m_makeable [] (mCons (mVar 2) mNil)) (mCons (mCall oTuple (mCons (mFn 1 m__law_made [] (mCons (mVar 2) mNil)) mNil)) mNil))))) (mRet (mC (.bl false))) mSkip)
  (mSeq (mAsg (mBin oAdd (mComp [4] (mRng1 (mCons (mC (.int 4)) mNil)) (cName 4) mYes (mFn 2 m__law_text [] (mCons (mVar 1) (mCons (mVar 2) mNil)))) (mLst (mCons (mC (.str "")) mNil))) (gSet 3))
  (mSeq (mFor (mWk (mVar 3)) (gSet 5) (mIfS (mNot (mTest (mFn 2 (m__law_same 4) [] (mCons (mFn 2 m_ends_of [] (mCons (mVar 2) (mCons (mVar 5) mNil))) (mCons (mFn 2 m__law_ends [] (mCons (mBin oIx (mVar 2) (mC (.int 1))) (mCons (mVar 5) mNil))) mNil))))) (mRet (mC (.bl false))) mSkip))
  (mSeq (mAsg (mTup (mCons (mBin oIx (mVar 2) (mC (.int 0))) (mCons (mBin oIx (mVar 2) (mC (.int 1))) (mCons (mFn 1 m__law_manner [] (mCons (mVar 1) mNil)) mNil)))) (gSet 6))
  (mSeq (mIfS (mNot (mTest (mFn 2 (m__law_same 4) [] (mCons (mKw 1 0 (["table"] : List Str).length [0] m_makeable mNil (mCons (mVar 6) mNil)) (mCons (mCall oTuple (mCons (mFn 1 m__law_made [] (mCons (mVar 2) mNil)) mNil)) mNil))))) (mRet (mC (.bl false))) mSkip)
  (mRet (mFn 2 (m__law_same 4) [] (mCons (mKw 2 0 (["text", "table"] : List Str).length [1, 0] m_ends_of mNil (mCons (mBin oIx (mVar 3) (mC (.int 0))) (mCons (mVar 6) mNil))) (mCons (mFn 2 m__law_ends [] (mCons (mBin oIx (mVar 2) (mC (.int 1))) (mCons (mBin oIx (mVar 3) (mC (.int 0))) mNil))) mNil)))))))))))
noncomputable def m_law : List W → Store → Res W := fnRes 7 b_law
theorem w_law {P : Program} {w : World} {K : PySem.W.Frag} {mg : Str → Option Value} {base : Heap} {f : Addr} {cdv : Value} {A : Around} {outer : List Env} {s : Shared} {H : Hp} {E : XK} (T : Facts mg)  (F__law_ends : FnA P w K mg base 1 2 "_law_ends" [] m__law_ends) (F__law_made : FnA P w K mg base 1 1 "_law_made" [] m__law_made) (F__law_manner : FnA P w K mg base 2 1 "_law_manner" [] m__law_manner) (F__law_row : FnA P w K mg base 1 2 "_law_row" [] m__law_row) (F__law_same : FnA P w K mg base 4 2 "_law_same" [] (m__law_same 4)) (F__law_table : FnA P w K mg base 4 3 "_law_table" [] m__law_table) (F__law_text : FnA P w K mg base 2 2 "_law_text" [] m__law_text) (F_ends_of : FnA P w K mg base 2 2 "ends_of" [] m_ends_of) (F_makeable : FnA P w K mg base 1 1 "makeable" [] m_makeable) (FK_0 : FnK P w K mg base 1 1 "makeable" 0 ["table"] [0] m_makeable) (FK_1 : FnK P w K mg base 2 2 "ends_of" 0 ["text", "table"] [1, 0] m_ends_of) (hr : Room 4 (A.deeper (envOfC "law" (defScope s_law) s.heap.objs.size f cdv))) :
    ASs (cxOf (L2.CX P w) P w K mg base ["_law_script", "_law_row_here", "_law_tab", "_law_texts", "_law_k", "_law_line", "_law_late"] "law" (defScope s_law) f cdv A outer s H E) (wxOf E) (defBody s_law) b_law :=
  (ss_cons (s_set (i := 1) sc_law.nd rfl (by first | exact Or.inl rfl | exact Or.inr rfl) (a_fn F__law_row hr (by decide) rfl (takes_of rfl rfl rfl rfl) (aa_cons (av 0) (aa_cons a_int aa_nil))))
      (ss_cons (s_set (i := 2) sc_law.nd rfl (by first | exact Or.inl rfl | exact Or.inr rfl) (a_fn F__law_table hr (by decide) rfl (takes_of rfl rfl rfl rfl) (aa_cons (av 1) (aa_cons a_int (aa_cons a_int aa_nil)))))
      (ss_cons (s_if (at_not (at_val (a_fn F__law_same hr (by decide) rfl (takes_of rfl rfl rfl rfl) (aa_cons (a_fn F_makeable hr (by decide) rfl (takes_of rfl rfl rfl rfl) (aa_cons (av 2) aa_nil)) (aa_cons (a_callTy (c_tuple rfl) rfl T.m_tuple (by decide +kernel) (aa_cons (a_fn F__law_made hr (by decide) rfl (takes_of rfl rfl rfl rfl) (aa_cons (av 2) aa_nil)) aa_nil)) aa_nil))))) (ss_one (s_ret a_bl)) ss_nil)
      (ss_cons (s_set (i := 3) sc_law.nd rfl (by first | exact Or.inl rfl | exact Or.inr rfl) (a_op op_Add (a_comp (own := [("_law_k", 4)]) (t := (gName 4)) rfl sc_law.nd (i_range1 rfl T.m_range (aa_cons a_int aa_nil)) (blkOk_by rfl) (cg_name (by decide)) (fun _ _ _ _ _ => (pg_name (i := 4) sc_law.nd rfl (by first | exact Or.inl rfl | exact Or.inr rfl))) (fun _ _ _ _ _ => ats_nil) (fun _ _ _ _ _ => (a_fn F__law_text hr (by decide) rfl takes0 (aa_cons (av 1) (aa_cons (av 2) aa_nil))))) (a_lst (aa_cons a_str aa_nil))))
      (ss_cons (s_for (passes_of rfl) rfl (i_any (av 3)) (g_name (i := 5) sc_law.nd rfl (by first | exact Or.inl rfl | exact Or.inr rfl)) (ss_one (s_if (at_not (at_val (a_fn F__law_same hr (by decide) rfl (takes_of rfl rfl rfl rfl) (aa_cons (a_fn F_ends_of hr (by decide) rfl (takes_of rfl rfl rfl rfl) (aa_cons (av 2) (aa_cons (av 5) aa_nil))) (aa_cons (a_fn F__law_ends hr (by decide) rfl (takes_of rfl rfl rfl rfl) (aa_cons (a_ix (hr1 hr) (av 2) a_int (fun _ _ => rfl)) (aa_cons (av 5) aa_nil))) aa_nil))))) (ss_one (s_ret a_bl)) ss_nil)))
      (ss_cons (s_set (i := 6) sc_law.nd rfl (by first | exact Or.inl rfl | exact Or.inr rfl) (a_tup (aa_cons (a_ix (hr1 hr) (av 2) a_int (fun _ _ => rfl)) (aa_cons (a_ix (hr1 hr) (av 2) a_int (fun _ _ => rfl)) (aa_cons (a_fn F__law_manner hr (by decide) rfl (takes_of rfl rfl rfl rfl) (aa_cons (av 1) aa_nil)) aa_nil)))))
      (ss_cons (s_if (at_not (at_val (a_fn F__law_same hr (by decide) rfl (takes_of rfl rfl rfl rfl) (aa_cons (a_kw0 FK_0 hr (by decide) rfl (takes_of rfl rfl rfl rfl) (ak_cons (av 6) ak_nil)) (aa_cons (a_callTy (c_tuple rfl) rfl T.m_tuple (by decide +kernel) (aa_cons (a_fn F__law_made hr (by decide) rfl (takes_of rfl rfl rfl rfl) (aa_cons (av 2) aa_nil)) aa_nil)) aa_nil))))) (ss_one (s_ret a_bl)) ss_nil)
      (ss_one (s_ret (a_fn F__law_same hr (by decide) rfl (takes_of rfl rfl rfl rfl) (aa_cons (a_kw0 FK_1 hr (by decide) rfl (takes_of rfl rfl rfl rfl) (ak_cons (a_ix (hr1 hr) (av 3) a_int (fun _ _ => rfl)) (ak_cons (av 6) ak_nil))) (aa_cons (a_fn F__law_ends hr (by decide) rfl (takes_of rfl rfl rfl rfl) (aa_cons (a_ix (hr1 hr) (av 2) a_int (fun _ _ => rfl)) (aa_cons (a_ix (hr1 hr) (av 3) a_int (fun _ _ => rfl)) aa_nil))) aa_nil))))))))))))
theorem bi_law {K : PySem.W.Frag} {f : Addr} {fd : FuncData} (F : FunD K "law" "law" (defArgs s_law) (defBody s_law) (defScope s_law) [] [] f fd) : Binds K fd ["_law_script"] [] := F.bindsN (fun _ _ _ _ _ _ us hl => match us, hl with | [_], _ => rfl)
theorem k_law {P : Program} {w : World} {K : PySem.W.Frag} {mg : Str → Option Value} {base : Heap} {f : Addr} {fd : FuncData} (T : Facts mg) (F : FunD K "law" "law" (defArgs s_law) (defBody s_law) (defScope s_law) [] [] f fd)  (F__law_ends : FnA P w K mg base 1 2 "_law_ends" [] m__law_ends) (F__law_made : FnA P w K mg base 1 1 "_law_made" [] m__law_made) (F__law_manner : FnA P w K mg base 2 1 "_law_manner" [] m__law_manner) (F__law_row : FnA P w K mg base 1 2 "_law_row" [] m__law_row) (F__law_same : FnA P w K mg base 4 2 "_law_same" [] (m__law_same 4)) (F__law_table : FnA P w K mg base 4 3 "_law_table" [] m__law_table) (F__law_text : FnA P w K mg base 2 2 "_law_text" [] m__law_text) (F_ends_of : FnA P w K mg base 2 2 "ends_of" [] m_ends_of) (F_makeable : FnA P w K mg base 1 1 "makeable" [] m_makeable) (FK_0 : FnK P w K mg base 1 1 "makeable" 0 ["table"] [0] m_makeable) (FK_1 : FnK P w K mg base 2 2 "ends_of" 0 ["text", "table"] [1, 0] m_ends_of) :
    FnOk P w K mg base (L2.CX P w) (4 + 1) f fd ["_law_script"] (spA K (["_law_script"] : List Str).length (fnRes (["_law_script", "_law_row_here", "_law_tab", "_law_texts", "_law_k", "_law_line", "_law_late"] : List Str).length b_law)) :=
  fn_ok F sc_law (fun cdv A outer s H E hr => w_law T  F__law_ends F__law_made F__law_manner F__law_row F__law_same F__law_table F__law_text F_ends_of F_makeable FK_0 FK_1 hr)
theorem ok_law {P : Program} {w : World} {K : PySem.W.Frag} {mg : Str → Option Value} {base : Heap} {f : Addr} {fd : FuncData} (T : Facts mg) (F : FunD K "law" "law" (defArgs s_law) (defBody s_law) (defScope s_law) [] [] f fd) (gl : mg "law" = some (.ref f)) (F__law_ends : FnA P w K mg base 1 2 "_law_ends" [] m__law_ends) (F__law_made : FnA P w K mg base 1 1 "_law_made" [] m__law_made) (F__law_manner : FnA P w K mg base 2 1 "_law_manner" [] m__law_manner) (F__law_row : FnA P w K mg base 1 2 "_law_row" [] m__law_row) (F__law_same : FnA P w K mg base 4 2 "_law_same" [] (m__law_same 4)) (F__law_table : FnA P w K mg base 4 3 "_law_table" [] m__law_table) (F__law_text : FnA P w K mg base 2 2 "_law_text" [] m__law_text) (F_ends_of : FnA P w K mg base 2 2 "ends_of" [] m_ends_of) (F_makeable : FnA P w K mg base 1 1 "makeable" [] m_makeable) (FK_0 : FnK P w K mg base 1 1 "makeable" 0 ["table"] [0] m_makeable) (FK_1 : FnK P w K mg base 2 2 "ends_of" 0 ["text", "table"] [1, 0] m_ends_of) : FnA P w K mg base 5 1 "law" [] m_law := by
  have h := k_law (P := P) (w := w) (mg := mg) (base := base) T F F__law_ends F__law_made F__law_manner F__law_row F__law_same F__law_table F__law_text F_ends_of F_makeable FK_0 FK_1
  exact ⟨f, fd, _, [], [], h, gl, F.kp, bi_law F, .nil, fun _ _ => .nil⟩
def dd (n : Str) (i : Nat) : He.DefD := ⟨(n, none), n, n, defArgs (topS i), defBody (topS i), defScope (topS i), [], []⟩
def fnL : List He.DefD := [dd "places_of" 1, dd "joined_at" 2, dd "makeable" 4, dd "ends_of" 5, dd "_law_row" 7, dd "_law_take" 8, dd "_law_word" 9, dd "_law_grown" 10, dd "_law_rules" 11, dd "_law_manner" 12, dd "_law_table" 13, dd "_law_made" 14, dd "_law_ends" 15, dd "_law_same" 16, dd "_law_text" 17, dd "law" 18]
def faL : List He.Fa := [.glo "places_of", .glo "joined_at", .glo "makeable", .glo "ends_of", .glo "_law_row", .glo "_law_take", .glo "_law_word", .glo "_law_grown", .glo "_law_rules", .glo "_law_manner", .glo "_law_table", .glo "_law_made", .glo "_law_ends", .glo "_law_same", .glo "_law_text", .glo "law", .free "abs", .free "all", .free "bool", .free "enumerate", .free "int", .free "isinstance", .free "len", .free "list", .free "min", .free "range", .free "sorted", .free "str", .free "tuple", .free "zip"]
abbrev RL : PySem.W.OpenRow := PySem.W.OpenLaw.row PySem.Challenge.rw_paircuts_k41_ends_by_any_order_told
abbrev hkL : PySem.W.Hook := He.hookD 4 faL fnL
def obL (s : PySem.W.SharedT) : He.AlD := He.obsDG 4 faL fnL (HandSHeadRun.getT s)
theorem obL_eq (s : PySem.W.SharedT) : obL s = hkL.obs s.abs := He.obsDG_eq (HandSHeadRun.getT_eq s)
def looseL : List PySem.Str := ["places_of", "joined_at", "makeable", "ends_of", "_law_row", "_law_take", "_law_word", "_law_grown", "_law_rules", "_law_manner", "_law_table", "_law_made", "_law_ends", "_law_same", "_law_text"]
theorem runL (w : World) : HandSHeadRun.RunEq RL (PySem.W.view RL.prog [18]) hkL obL 3000 looseL w := by
  intro os
  kernel_rfl
theorem factsL {P : Program} {w : World} {K : PySem.W.Frag} {h : Heap} {mg : Str → Option Value} {f : Addr} (X : K.In h) (G : h.Ns mainGlobals mg) (hfa : mg ("law" : Str) = some (.ref f)) (c : He.SaysD faL fnL K) :
    ∃ fd : FuncData, (∀ (s : Shared) (v : Value), BindsTo s fd ⟨[v], []⟩ [("_law_script", v)]) ∧ ∀ base : Heap, K.In base → base.Ns mainGlobals mg → FnOk P w K mg base L2.CX0 5 f fd ["_law_script"] (fun vs H Q _ => spA K 1 m_law vs H Q fun _ _ _ => False) := by
  obtain ⟨d0, F0⟩ := c.def_ 0 (d := dd "places_of" 1) rfl
  have g0 := He.glo_ok X G (c.fact 0 (f := .glo "places_of") rfl)
  obtain ⟨d1, F1⟩ := c.def_ 1 (d := dd "joined_at" 2) rfl
  have g1 := He.glo_ok X G (c.fact 1 (f := .glo "joined_at") rfl)
  obtain ⟨d2, F2⟩ := c.def_ 2 (d := dd "makeable" 4) rfl
  have g2 := He.glo_ok X G (c.fact 2 (f := .glo "makeable") rfl)
  obtain ⟨d3, F3⟩ := c.def_ 3 (d := dd "ends_of" 5) rfl
  have g3 := He.glo_ok X G (c.fact 3 (f := .glo "ends_of") rfl)
  obtain ⟨d4, F4⟩ := c.def_ 4 (d := dd "_law_row" 7) rfl
  have g4 := He.glo_ok X G (c.fact 4 (f := .glo "_law_row") rfl)
  obtain ⟨d5, F5⟩ := c.def_ 5 (d := dd "_law_take" 8) rfl
  have g5 := He.glo_ok X G (c.fact 5 (f := .glo "_law_take") rfl)
  obtain ⟨d6, F6⟩ := c.def_ 6 (d := dd "_law_word" 9) rfl
  have g6 := He.glo_ok X G (c.fact 6 (f := .glo "_law_word") rfl)
  obtain ⟨d7, F7⟩ := c.def_ 7 (d := dd "_law_grown" 10) rfl
  have g7 := He.glo_ok X G (c.fact 7 (f := .glo "_law_grown") rfl)
  obtain ⟨d8, F8⟩ := c.def_ 8 (d := dd "_law_rules" 11) rfl
  have g8 := He.glo_ok X G (c.fact 8 (f := .glo "_law_rules") rfl)
  obtain ⟨d9, F9⟩ := c.def_ 9 (d := dd "_law_manner" 12) rfl
  have g9 := He.glo_ok X G (c.fact 9 (f := .glo "_law_manner") rfl)
  obtain ⟨d10, F10⟩ := c.def_ 10 (d := dd "_law_table" 13) rfl
  have g10 := He.glo_ok X G (c.fact 10 (f := .glo "_law_table") rfl)
  obtain ⟨d11, F11⟩ := c.def_ 11 (d := dd "_law_made" 14) rfl
  have g11 := He.glo_ok X G (c.fact 11 (f := .glo "_law_made") rfl)
  obtain ⟨d12, F12⟩ := c.def_ 12 (d := dd "_law_ends" 15) rfl
  have g12 := He.glo_ok X G (c.fact 12 (f := .glo "_law_ends") rfl)
  obtain ⟨d13, F13⟩ := c.def_ 13 (d := dd "_law_same" 16) rfl
  have g13 := He.glo_ok X G (c.fact 13 (f := .glo "_law_same") rfl)
  obtain ⟨d14, F14⟩ := c.def_ 14 (d := dd "_law_text" 17) rfl
  have g14 := He.glo_ok X G (c.fact 14 (f := .glo "_law_text") rfl)
  obtain ⟨d15, F15⟩ := c.def_ 15 (d := dd "law" 18) rfl
  have e := hfa.symm.trans (He.glo_ok X G (c.fact 15 (f := .glo "law") rfl))
  cases e
  have T : Facts mg := ⟨He.free_ok X G (c.fact 16 (f := .free "abs") rfl), He.free_ok X G (c.fact 17 (f := .free "all") rfl), He.free_ok X G (c.fact 18 (f := .free "bool") rfl), He.free_ok X G (c.fact 19 (f := .free "enumerate") rfl), He.free_ok X G (c.fact 20 (f := .free "int") rfl), He.free_ok X G (c.fact 21 (f := .free "isinstance") rfl), He.free_ok X G (c.fact 22 (f := .free "len") rfl), He.free_ok X G (c.fact 23 (f := .free "list") rfl), He.free_ok X G (c.fact 24 (f := .free "min") rfl), He.free_ok X G (c.fact 25 (f := .free "range") rfl), He.free_ok X G (c.fact 26 (f := .free "sorted") rfl), He.free_ok X G (c.fact 27 (f := .free "str") rfl), He.free_ok X G (c.fact 28 (f := .free "tuple") rfl), He.free_ok X G (c.fact 29 (f := .free "zip") rfl)⟩
  have b := FunD.bindsA (ps := ["_law_script"]) F15 fun _ _ _ _ _ _ us hl => match us, hl with | [_], _ => rfl
  refine ⟨d15, fun s v => b s [v] rfl, fun base _ _ => ?_⟩
  have A_places_of := ok_places_of (P := P) (w := w) (base := base) T F0 g0 
  have A_joined_at := ok_joined_at (P := P) (w := w) (base := base) T F1 g1 
  have A_makeable := ok_makeable (P := P) (w := w) (base := base) T F2 g2 
  have AK_0 := okk_0 (P := P) (w := w) (base := base) T F2 g2 
  have A_ends_of := ok_ends_of (P := P) (w := w) (base := base) T F3 g3 A_joined_at A_places_of
  have AK_1 := okk_1 (P := P) (w := w) (base := base) T F3 g3 A_joined_at A_places_of
  have A__law_row := ok__law_row (P := P) (w := w) (base := base) T F4 g4 
  have A__law_take := ok__law_take (P := P) (w := w) (base := base) T F5 g5 
  have A__law_word := ok__law_word (P := P) (w := w) (base := base) T F6 g6 
  have A__law_grown := ok__law_grown (P := P) (w := w) (base := base) T F7 g7 A__law_take
  have A__law_rules := ok__law_rules (P := P) (w := w) (base := base) T F8 g8 A__law_grown A__law_take A__law_word
  have A__law_manner := ok__law_manner (P := P) (w := w) (base := base) T F9 g9 A__law_take
  have A__law_table := ok__law_table (P := P) (w := w) (base := base) T F10 g10 A__law_manner A__law_rules A__law_take
  have A__law_made := ok__law_made (P := P) (w := w) (base := base) T F11 g11 
  have A__law_ends := ok__law_ends (P := P) (w := w) (base := base) T F12 g12 
  have A__law_same := ok__law_same (P := P) (w := w) (base := base) T F13 g13 
  have A__law_text := ok__law_text (P := P) (w := w) (base := base) T F14 g14 A__law_take
  have hk := k_law (P := P) (w := w) (mg := mg) (base := base) T F15 A__law_ends A__law_made A__law_manner A__law_row A__law_same A__law_table A__law_text A_ends_of A_makeable AK_0 AK_1
  exact fnok0 hk
end Gen
namespace Gen
open PySem PySem.Spec PyProof.Rows L2 Eng
abbrev Rule := Str × Str
def ruleW (p : Rule) : W := .tup [.str p.1, .str p.2]
def tabW (ls : List Str) (rs : List Rule) (m : Str) : W := .tup [.tup (ls.map W.str), .tup (rs.map ruleW), .str m]
def joinAt (r : List Str) (k : Nat) : List Str := r.take k ++ (r.getD k default ++ r.getD (k + 1) default) :: r.drop (k + 2)
def rlen (r : List Str) : Nat := (r.map (·.length)).sum
theorem rlen_get {r : List Str} {k : Nat} (h : k < r.length) : r[k].length ≤ rlen r := by
  unfold rlen
  have e : r = r.take k ++ r[k] :: r.drop (k + 1) := getElem?_split (List.getElem?_eq_getElem h)
  have e2 : (r.map (·.length)).sum = ((r.take k ++ r[k] :: r.drop (k + 1)).map (·.length)).sum := by rw [← e]
  rw [e2, List.map_append, List.map_cons, List.sum_append, List.sum_cons]
  omega
theorem allData_map {α : Type} {f : α → W} (h : ∀ x, (f x).isData = true) : ∀ l : List α, allData (l.map f) = true
  | [] => rfl
  | x :: l => by rw [List.map_cons, allData, h, allData_map h l]; rfl
theorem row_data (r : List Str) : (rowW r).isData = true := (embT embS).data r
theorem joined_eq {r : List Str} {k : Nat} {S : Store} (hk : k + 1 < r.length) (hl : rlen r ≤ 1000) (hr : r.length ≤ 1000) : m_joined_at [rowW r, .int (k : Nat)] S = .ok (rowW (joinAt r k)) S := by
  refine OkE.eqv ?_
  unfold m_joined_at fnRes b_joined_at
  refine OkE.leave ?_
  have h0 : k < r.length := by omega
  have e1 : ∀ S, oIx (.tup (r.map W.str)) (.int (k : Nat)) S = .ok (.str r[k]) S := fun S => o_ixT (by rw [atI_n, List.getElem?_map, List.getElem?_eq_getElem h0]; rfl)
  have e2 : ∀ S, oIx (.tup (r.map W.str)) (.int ((k : Nat) + 1)) S = .ok (.str r[k + 1]) S := fun S => o_ixT (by rw [show ((k : Nat) : Int) + 1 = ((k + 1 : Nat) : Int) by omega, atI_n, List.getElem?_map, List.getElem?_eq_getElem hk]; rfl)
  have l1 := rlen_get h0
  have l2 := rlen_get hk
  have e3 : ∀ S, oAdd (.str r[k]) (.str r[k + 1]) S = .ok (.str (r[k] ++ r[k + 1])) S := fun S => o_addS (by rw [sizeLine_eq]; omega)
  have e4 : cutW (r.map W.str) (some ((k : Nat) + 2)) none = (r.drop (k + 2)).map W.str := by rw [show ((k : Nat) : Int) + 2 = ((k + 2 : Nat) : Int) by omega, cutW_from, List.map_drop]
  have e5 : cutW (r.map W.str) none (some ((k : Nat) : Int)) = (r.take k).map W.str := by rw [cutW_to, List.map_take]
  unfold rowW
  simp -implicitDefEqProofs only [OkS.ret, OkS.seq, OkS.asg, OkS.exp, OkS.ite, OkS.skip, OkS.brk, OkS.cnt, OkS.for, OkS.while, OkE.bnd, OkE.toS, OkE.ok, OkE.nox, OkE.comp, OkS.nxt, OkS.rtn, mIf, mTest, mBin, mVar, mC, mCall, mCons, mNil, mStar, mSl, mPart, mNoPart, mMeth, mMeth0, mTup, mLst, mLstR, mNeg, mNot, mAnd, mOr, mAndV, mOrV, mNotV, mYes, mRng1, mWk, mEnum, mEnumZip, mZip, mFn, mPar, mPar3, mAug, mIsi, mExpr, gSet, gTupW, gConsW, gNilW, gPut, seqT, startW, wipeW, cName, cTup, cCons, cNil, oIntX, oInt, oAbs, oMin2, oGt, oGe, oLt, oLe, oMod, oFdiv, oSub, oIAdd, Res.bind_ok, Res.toS_ok, noX_okk, List.map_cons, List.map_nil, List.cons_append, List.nil_append, List.append_nil, List.getElem?_cons_zero, List.getElem?_cons_succ, List.set_cons_zero, List.set_cons_succ, List.length_cons, List.length_nil, List.replicate, Nat.reduceAdd, Nat.reduceSub, Nat.add_eq, Nat.add_zero, Nat.sub_self, if_true, if_false, Bool.false_eq_true, reduceIte, Option.getD_some, o_addI, o_slT, o_slS, o_slL, o_lenS, o_lenT, o_lenL, o_lenSc, o_tupS, o_tupL, o_tupT, o_ixT0, o_ixT1, o_ixT2, o_ixL0, o_ixL1, ty_str, sizeLine_eq, Nat.reduceLeDiff, Nat.zero_le, Nat.reduceLT, Int.reduceLT, Int.reduceLE, Int.reduceNeg, and_self, and_true, true_and, Int.reduceToNat, e1, e2, e3, e4, e5]
  rw [if_pos (by simp; omega), OkE.ok]
  have e6 : (r.take k).map W.str ++ W.str (r[k] ++ r[k + 1]) :: (r.drop (k + 2)).map W.str = (joinAt r k).map W.str := by
    unfold joinAt
    rw [List.map_append, List.map_cons]
    simp [List.getD, List.getElem?_eq_getElem h0, List.getElem?_eq_getElem hk]
  rw [e6]
  exact ⟨row_data _, CutOk.refl, rfl, List.take_length⟩
theorem joinAt_len {r : List Str} {k : Nat} (hk : k + 1 < r.length) : (joinAt r k).length + 1 = r.length := by
  unfold joinAt
  simp
  omega
theorem str_app_len (a b : Str) : (a ++ b).length = a.length + b.length := Array.size_append
theorem joinAt_rlen {r : List Str} {k : Nat} (hk : k + 1 < r.length) : rlen (joinAt r k) = rlen r := by
  have h0 : k < r.length := by omega
  have e : r = r.take k ++ r[k] :: r[k + 1] :: r.drop (k + 2) := by
    rw [← List.drop_eq_getElem_cons hk, ← List.drop_eq_getElem_cons h0, List.take_append_drop]
  have : rlen r = rlen (r.take k ++ r[k] :: r[k + 1] :: r.drop (k + 2)) := by rw [← e]
  rw [this]
  unfold joinAt rlen
  rw [getD_at h0, getD_at hk]
  simp only [List.map_append, List.map_cons, List.sum_append, List.sum_cons, str_app_len]
  omega
/-! places -/
def fits (rs : List Rule) (r : List Str) (k : Nat) : Bool := decide ((r.getD k default, r.getD (k + 1) default) ∈ rs)
def places (rs : List Rule) (r : List Str) : List Nat := (List.range (r.length - 1)).filter (fits rs r)
def embR : Emb Rule := embP embS embS
theorem zip_tail : ∀ r : List Str, zipW (r.map W.str) ((r.map W.str).drop 1) = (List.range (r.length - 1)).map fun k => ruleW (r.getD k default, r.getD (k + 1) default) := by
  intro r
  apply List.ext_getElem?
  intro i
  unfold zipW
  rw [List.getElem?_zipWith, List.getElem?_map, List.getElem?_drop, List.getElem?_map, List.getElem?_map]
  by_cases h : i + 1 < r.length
  · have h0 : i < r.length := by omega
    rw [List.getElem?_range (by omega), List.getElem?_eq_getElem h0, List.getElem?_eq_getElem (show 1 + i < r.length by omega)]
    simp [List.getD, List.getElem?_eq_getElem h0, List.getElem?_eq_getElem h, ruleW, Nat.add_comm 1 i]
  · rw [List.getElem?_eq_none (l := r) (i := 1 + i) (by omega), List.getElem?_eq_none (l := List.range _) (by simp; omega)]
    cases (Option.map W.str r[i]?) <;> rfl
theorem enum_range {α : Type} {f : α → W} {l : List α} : enumW (l.map f) = (l.zipIdx).map fun p => .tup [.int (p.2 : Nat), f p.1] := by
  unfold enumW
  apply List.ext_getElem?
  intro i
  rw [List.getElem?_mapIdx, List.getElem?_map, List.getElem?_map, List.getElem?_zipIdx]
  cases l[i]? with
  | none => rfl
  | some x => simp
def rkey (p : Rule) : List Key := [.inr p.1, .inr p.2]
theorem tab_ix {ls : List Str} {rs : List Rule} {m : Str} {S : Store} : oIx (tabW ls rs m) (.int 1) S = .ok (.tup (rs.map ruleW)) S := o_ixT1
theorem tab_ix0 {ls : List Str} {rs : List Rule} {m : Str} {S : Store} : oIx (tabW ls rs m) (.int 0) S = .ok (.tup (ls.map W.str)) S := o_ixT0
theorem enum_rng {f : Nat → W} {n : Nat} : enumW ((List.range n).map f) = (List.range n).map fun k => .tup [.int (k : Nat), f k] := by
  unfold enumW
  apply List.ext_getElem?
  intro i
  rw [List.getElem?_mapIdx, List.getElem?_map, List.getElem?_map]
  by_cases h : i < n
  · rw [List.getElem?_range h]; rfl
  · rw [List.getElem?_eq_none (by simpa using h)]; rfl
theorem in_ruleT {p : Rule} {S : Store} {n : Nat} {kvs : List (List Key × W)} (hS : S[n]? = some (.dT kvs)) : oIn (ruleW p) (.ref n) S = .ok (.bl (valW kvs (rkey p)).isSome) S := by
  unfold oIn inS
  simp only [lookS]
  rw [hS]
  rfl
theorem ix_ruleT {p : Rule} {S : Store} {n : Nat} {kvs : List (List Key × W)} {w : W} (hS : S[n]? = some (.dT kvs)) (h : valW kvs (rkey p) = some w) : oIx (.ref n) (ruleW p) S = .ok w S := by
  unfold oIx
  have : lookS S (.ref n) (ruleW p) = some (some w) := by
    simp only [lookS]
    rw [hS]
    show some (valW kvs (rkey p)) = _
    rw [h]
  rw [this]
theorem rkey_inj (p q : Rule) (h : rkey p = rkey q) : p = q := by
  obtain ⟨a, b⟩ := p
  obtain ⟨c, d⟩ := q
  unfold rkey at h
  simp at h
  rw [h.1, h.2]
def placeW (rk : Nat → Int) (k : Nat) : W := .tup [.int (k : Nat), .int (rk k)]
theorem places_eq {ls : List Str} {rs : List Rule} {m : Str} {r : List Str} {S : Store} (h1 : rs.length ≤ 1000) (h2 : r.length ≤ 1000) :
    ∃ rk : Nat → Int, m_places_of [tabW ls rs m, rowW r] S = .ok (.tup ((places rs r).map (placeW rk))) S := by
  have : OkE (m_places_of [tabW ls rs m, rowW r] S) fun w S' => (∃ rk : Nat → Int, w = .tup ((places rs r).map (placeW rk))) ∧ S' = S := by
    unfold m_places_of fnRes b_places_of
    refine OkE.leave ?_
    simp -implicitDefEqProofs only [OkS.ret, OkS.seq, OkS.asg, OkS.exp, OkS.ite, OkS.skip, OkS.brk, OkS.cnt, OkS.for, OkS.while, OkE.bnd, OkE.toS, OkE.ok, OkE.nox, OkE.comp, OkS.nxt, OkS.rtn, mIf, mTest, mBin, mVar, mC, mCall, mCons, mNil, mStar, mSl, mPart, mNoPart, mMeth, mMeth0, mTup, mLst, mLstR, mNeg, mNot, mAnd, mOr, mAndV, mOrV, mNotV, mYes, mRng1, mWk, mEnum, mEnumZip, mZip, mFn, mPar, mPar3, mAug, mIsi, mExpr, gSet, gTupW, gConsW, gNilW, gPut, seqT, startW, wipeW, cName, cTup, cCons, cNil, oIntX, oInt, oAbs, oMin2, oGt, oGe, oLt, oLe, oMod, oFdiv, oSub, oIAdd, Res.bind_ok, Res.toS_ok, noX_okk, List.map_cons, List.map_nil, List.cons_append, List.nil_append, List.append_nil, List.getElem?_cons_zero, List.getElem?_cons_succ, List.set_cons_zero, List.set_cons_succ, List.length_cons, List.length_nil, List.replicate, Nat.reduceAdd, Nat.reduceSub, Nat.add_eq, Nat.add_zero, Nat.sub_self, if_true, if_false, Bool.false_eq_true, reduceIte, Option.getD_some, o_addI, o_slT, o_slS, o_slL, o_lenS, o_lenT, o_lenL, o_lenSc, o_tupS, o_tupL, o_tupT, o_ixT0, o_ixT1, o_ixT2, o_ixL0, o_ixL1, ty_str, sizeLine_eq, Nat.reduceLeDiff, Nat.zero_le, Nat.reduceLT, Int.reduceLT, Int.reduceLE, Int.reduceNeg, and_self, and_true, true_and, Int.reduceToNat, OkE.dcomp, tab_ix, enum_range]
    refine dcomp_mapI (fun pre o S' => S' = S ∧ ∃ kvs, o = .dT kvs ∧ kvs.length ≤ pre.length ∧ ∀ q : Rule, (q ∈ pre.map (·.1) → ∃ j : Int, valW kvs (rkey q) = some (.int j)) ∧ (q ∉ pre.map (·.1) → valW kvs (rkey q) = none)) ⟨rfl, [], rfl, Nat.le_refl _, fun q => ⟨fun z => (by cases z), fun _ => rfl⟩⟩ ?_ ?_
    · rintro pre ⟨x, i⟩ post acc S' e ⟨rfl, kvs, rfl, hl, hv⟩
      refine ⟨[some (tabW ls rs m), some (rowW r), none, some (.int (i : Nat)), some (ruleW x), none, none], by simp -implicitDefEqProofs only [OkS.ret, OkS.seq, OkS.asg, OkS.exp, OkS.ite, OkS.skip, OkS.brk, OkS.cnt, OkS.for, OkS.while, OkE.bnd, OkE.toS, OkE.ok, OkE.nox, OkE.comp, OkS.nxt, OkS.rtn, mIf, mTest, mBin, mVar, mC, mCall, mCons, mNil, mStar, mSl, mPart, mNoPart, mMeth, mMeth0, mTup, mLst, mLstR, mNeg, mNot, mAnd, mOr, mAndV, mOrV, mNotV, mYes, mRng1, mWk, mEnum, mEnumZip, mZip, mFn, mPar, mPar3, mAug, mIsi, mExpr, gSet, gTupW, gConsW, gNilW, gPut, seqT, startW, wipeW, cName, cTup, cCons, cNil, oIntX, oInt, oAbs, oMin2, oGt, oGe, oLt, oLe, oMod, oFdiv, oSub, oIAdd, Res.bind_ok, Res.toS_ok, noX_okk, List.map_cons, List.map_nil, List.cons_append, List.nil_append, List.append_nil, List.getElem?_cons_zero, List.getElem?_cons_succ, List.set_cons_zero, List.set_cons_succ, List.length_cons, List.length_nil, List.replicate, Nat.reduceAdd, Nat.reduceSub, Nat.add_eq, Nat.add_zero, Nat.sub_self, if_true, if_false, Bool.false_eq_true, reduceIte, Option.getD_some, o_addI, o_slT, o_slS, o_slL, o_lenS, o_lenT, o_lenL, o_lenSc, o_tupS, o_tupL, o_tupT, o_ixT0, o_ixT1, o_ixT2, o_ixL0, o_ixL1, ty_str, sizeLine_eq, Nat.reduceLeDiff, Nat.zero_le, Nat.reduceLT, Int.reduceLT, Int.reduceLE, Int.reduceNeg, and_self, and_true, true_and, Int.reduceToNat], ?_⟩
      simp -implicitDefEqProofs only [OkS.ret, OkS.seq, OkS.asg, OkS.exp, OkS.ite, OkS.skip, OkS.brk, OkS.cnt, OkS.for, OkS.while, OkE.bnd, OkE.toS, OkE.ok, OkE.nox, OkE.comp, OkS.nxt, OkS.rtn, mIf, mTest, mBin, mVar, mC, mCall, mCons, mNil, mStar, mSl, mPart, mNoPart, mMeth, mMeth0, mTup, mLst, mLstR, mNeg, mNot, mAnd, mOr, mAndV, mOrV, mNotV, mYes, mRng1, mWk, mEnum, mEnumZip, mZip, mFn, mPar, mPar3, mAug, mIsi, mExpr, gSet, gTupW, gConsW, gNilW, gPut, seqT, startW, wipeW, cName, cTup, cCons, cNil, oIntX, oInt, oAbs, oMin2, oGt, oGe, oLt, oLe, oMod, oFdiv, oSub, oIAdd, Res.bind_ok, Res.toS_ok, noX_okk, List.map_cons, List.map_nil, List.cons_append, List.nil_append, List.append_nil, List.getElem?_cons_zero, List.getElem?_cons_succ, List.set_cons_zero, List.set_cons_succ, List.length_cons, List.length_nil, List.replicate, Nat.reduceAdd, Nat.reduceSub, Nat.add_eq, Nat.add_zero, Nat.sub_self, if_true, if_false, Bool.false_eq_true, reduceIte, Option.getD_some, o_addI, o_slT, o_slS, o_slL, o_lenS, o_lenT, o_lenL, o_lenSc, o_tupS, o_tupL, o_tupT, o_ixT0, o_ixT1, o_ixT2, o_ixL0, o_ixL1, ty_str, sizeLine_eq, Nat.reduceLeDiff, Nat.zero_le, Nat.reduceLT, Int.reduceLT, Int.reduceLE, Int.reduceNeg, and_self, and_true, true_and, Int.reduceToNat]
      have hlen : pre.length < 1000 := by
        have := congrArg List.length e
        simp at this
        omega
      refine ⟨.dT (putW kvs (rkey x) (.int (i : Nat))), ?_, _, rfl, ?_, fun q => ⟨fun hq => ?_, fun hq => ?_⟩⟩
      · unfold putOb ruleW
        simp only [keysW, keyW]
        rw [if_pos (by rw [sizeLine_eq]; omega)]
        rfl
      · have := putW_len (kvs := kvs) (k := rkey x) (v := W.int (i : Nat))
        simp
        omega
      · rw [valW_put]
        by_cases h : q = x
        · exact ⟨_, by rw [if_pos (by rw [h])]⟩
        · rw [if_neg (fun z => h (rkey_inj _ _ z))]
          exact (hv q).1 (by simpa [h] using hq)
      · rw [valW_put]
        have hq2 : ¬ q = x := fun z => hq (by simp [z])
        rw [if_neg (fun z => hq2 (rkey_inj _ _ z))]
        exact (hv q).2 (fun z => hq (by simp at z ⊢; exact .inl z))
    · rintro acc S' ⟨rfl, kvs, rfl, hl, hv⟩
      have hr : (rs.zipIdx).map (·.1) = rs := by simp
      rw [hr] at hv
      simp -implicitDefEqProofs only [OkS.ret, OkS.seq, OkS.asg, OkS.exp, OkS.ite, OkS.skip, OkS.brk, OkS.cnt, OkS.for, OkS.while, OkE.bnd, OkE.toS, OkE.ok, OkE.nox, OkE.comp, OkS.nxt, OkS.rtn, mIf, mTest, mBin, mVar, mC, mCall, mCons, mNil, mStar, mSl, mPart, mNoPart, mMeth, mMeth0, mTup, mLst, mLstR, mNeg, mNot, mAnd, mOr, mAndV, mOrV, mNotV, mYes, mRng1, mWk, mEnum, mEnumZip, mZip, mFn, mPar, mPar3, mAug, mIsi, mExpr, gSet, gTupW, gConsW, gNilW, gPut, seqT, startW, wipeW, cName, cTup, cCons, cNil, oIntX, oInt, oAbs, oMin2, oGt, oGe, oLt, oLe, oMod, oFdiv, oSub, oIAdd, Res.bind_ok, Res.toS_ok, noX_okk, List.map_cons, List.map_nil, List.cons_append, List.nil_append, List.append_nil, List.getElem?_cons_zero, List.getElem?_cons_succ, List.set_cons_zero, List.set_cons_succ, List.length_cons, List.length_nil, List.replicate, Nat.reduceAdd, Nat.reduceSub, Nat.add_eq, Nat.add_zero, Nat.sub_self, if_true, if_false, Bool.false_eq_true, reduceIte, Option.getD_some, o_addI, o_slT, o_slS, o_slL, o_lenS, o_lenT, o_lenL, o_lenSc, o_tupS, o_tupL, o_tupT, o_ixT0, o_ixT1, o_ixT2, o_ixL0, o_ixL1, ty_str, sizeLine_eq, Nat.reduceLeDiff, Nat.zero_le, Nat.reduceLT, Int.reduceLT, Int.reduceLE, Int.reduceNeg, and_self, and_true, true_and, Int.reduceToNat, rowW]
      rw [show (some 1 : Option Int) = some ((1 : Nat) : Int) from rfl, cutW_from, zip_tail, enum_rng]
      have hv2 : ∀ q : Rule, ∃ j : Int, q ∈ rs → valW kvs (rkey q) = some (.int j) := fun q => by
        by_cases h : q ∈ rs
        · obtain ⟨j, hj⟩ := (hv q).1 h
          exact ⟨j, fun _ => hj⟩
        · exact ⟨0, fun z => absurd z h⟩
      let rk : Nat → Int := fun k => (hv2 (r.getD k default, r.getD (k + 1) default)).choose
      have hrk : ∀ k, fits rs r k = true → valW kvs (rkey (r.getD k default, r.getD (k + 1) default)) = some (.int (rk k)) := fun k h => (hv2 _).choose_spec (by simpa [fits] using h)
      have hg : (S' ++ [Ob.dT kvs])[S'.length]? = some (.dT kvs) := st_get0
      refine comp_pure (fits rs r) (placeW rk) (by rw [sizeLine_eq]; simp; omega) (fun k hk => ⟨[some (tabW ls rs m), some (W.tup (List.map W.str r)), some (W.ref (List.length S')), none, none, some (.int (k : Nat)), some (ruleW (r.getD k default, r.getD (k + 1) default))], by simp -implicitDefEqProofs only [OkS.ret, OkS.seq, OkS.asg, OkS.exp, OkS.ite, OkS.skip, OkS.brk, OkS.cnt, OkS.for, OkS.while, OkE.bnd, OkE.toS, OkE.ok, OkE.nox, OkE.comp, OkS.nxt, OkS.rtn, mIf, mTest, mBin, mVar, mC, mCall, mCons, mNil, mStar, mSl, mPart, mNoPart, mMeth, mMeth0, mTup, mLst, mLstR, mNeg, mNot, mAnd, mOr, mAndV, mOrV, mNotV, mYes, mRng1, mWk, mEnum, mEnumZip, mZip, mFn, mPar, mPar3, mAug, mIsi, mExpr, gSet, gTupW, gConsW, gNilW, gPut, seqT, startW, wipeW, cName, cTup, cCons, cNil, oIntX, oInt, oAbs, oMin2, oGt, oGe, oLt, oLe, oMod, oFdiv, oSub, oIAdd, Res.bind_ok, Res.toS_ok, noX_okk, List.map_cons, List.map_nil, List.cons_append, List.nil_append, List.append_nil, List.getElem?_cons_zero, List.getElem?_cons_succ, List.set_cons_zero, List.set_cons_succ, List.length_cons, List.length_nil, List.replicate, Nat.reduceAdd, Nat.reduceSub, Nat.add_eq, Nat.add_zero, Nat.sub_self, if_true, if_false, Bool.false_eq_true, reduceIte, Option.getD_some, o_addI, o_slT, o_slS, o_slL, o_lenS, o_lenT, o_lenL, o_lenSc, o_tupS, o_tupL, o_tupT, o_ixT0, o_ixT1, o_ixT2, o_ixL0, o_ixL1, ty_str, sizeLine_eq, Nat.reduceLeDiff, Nat.zero_le, Nat.reduceLT, Int.reduceLT, Int.reduceLE, Int.reduceNeg, and_self, and_true, true_and, Int.reduceToNat], ?_, fun h => ?_⟩) ?_
      · simp -implicitDefEqProofs only [OkS.ret, OkS.seq, OkS.asg, OkS.exp, OkS.ite, OkS.skip, OkS.brk, OkS.cnt, OkS.for, OkS.while, OkE.bnd, OkE.toS, OkE.ok, OkE.nox, OkE.comp, OkS.nxt, OkS.rtn, mIf, mTest, mBin, mVar, mC, mCall, mCons, mNil, mStar, mSl, mPart, mNoPart, mMeth, mMeth0, mTup, mLst, mLstR, mNeg, mNot, mAnd, mOr, mAndV, mOrV, mNotV, mYes, mRng1, mWk, mEnum, mEnumZip, mZip, mFn, mPar, mPar3, mAug, mIsi, mExpr, gSet, gTupW, gConsW, gNilW, gPut, seqT, startW, wipeW, cName, cTup, cCons, cNil, oIntX, oInt, oAbs, oMin2, oGt, oGe, oLt, oLe, oMod, oFdiv, oSub, oIAdd, Res.bind_ok, Res.toS_ok, noX_okk, List.map_cons, List.map_nil, List.cons_append, List.nil_append, List.append_nil, List.getElem?_cons_zero, List.getElem?_cons_succ, List.set_cons_zero, List.set_cons_succ, List.length_cons, List.length_nil, List.replicate, Nat.reduceAdd, Nat.reduceSub, Nat.add_eq, Nat.add_zero, Nat.sub_self, if_true, if_false, Bool.false_eq_true, reduceIte, Option.getD_some, o_addI, o_slT, o_slS, o_slL, o_lenS, o_lenT, o_lenL, o_lenSc, o_tupS, o_tupL, o_tupT, o_ixT0, o_ixT1, o_ixT2, o_ixL0, o_ixL1, ty_str, sizeLine_eq, Nat.reduceLeDiff, Nat.zero_le, Nat.reduceLT, Int.reduceLT, Int.reduceLE, Int.reduceNeg, and_self, and_true, true_and, Int.reduceToNat]
        rw [in_ruleT hg]
        simp -implicitDefEqProofs only [OkS.ret, OkS.seq, OkS.asg, OkS.exp, OkS.ite, OkS.skip, OkS.brk, OkS.cnt, OkS.for, OkS.while, OkE.bnd, OkE.toS, OkE.ok, OkE.nox, OkE.comp, OkS.nxt, OkS.rtn, mIf, mTest, mBin, mVar, mC, mCall, mCons, mNil, mStar, mSl, mPart, mNoPart, mMeth, mMeth0, mTup, mLst, mLstR, mNeg, mNot, mAnd, mOr, mAndV, mOrV, mNotV, mYes, mRng1, mWk, mEnum, mEnumZip, mZip, mFn, mPar, mPar3, mAug, mIsi, mExpr, gSet, gTupW, gConsW, gNilW, gPut, seqT, startW, wipeW, cName, cTup, cCons, cNil, oIntX, oInt, oAbs, oMin2, oGt, oGe, oLt, oLe, oMod, oFdiv, oSub, oIAdd, Res.bind_ok, Res.toS_ok, noX_okk, List.map_cons, List.map_nil, List.cons_append, List.nil_append, List.append_nil, List.getElem?_cons_zero, List.getElem?_cons_succ, List.set_cons_zero, List.set_cons_succ, List.length_cons, List.length_nil, List.replicate, Nat.reduceAdd, Nat.reduceSub, Nat.add_eq, Nat.add_zero, Nat.sub_self, if_true, if_false, Bool.false_eq_true, reduceIte, Option.getD_some, o_addI, o_slT, o_slS, o_slL, o_lenS, o_lenT, o_lenL, o_lenSc, o_tupS, o_tupL, o_tupT, o_ixT0, o_ixT1, o_ixT2, o_ixL0, o_ixL1, ty_str, sizeLine_eq, Nat.reduceLeDiff, Nat.zero_le, Nat.reduceLT, Int.reduceLT, Int.reduceLE, Int.reduceNeg, and_self, and_true, true_and, Int.reduceToNat]
        congr 1
        cases e : fits rs r k with
        | true => rw [hrk k e]; rfl
        | false => rw [(hv _).2 (by simpa [fits] using e)]; rfl
      · simp -implicitDefEqProofs only [OkS.ret, OkS.seq, OkS.asg, OkS.exp, OkS.ite, OkS.skip, OkS.brk, OkS.cnt, OkS.for, OkS.while, OkE.bnd, OkE.toS, OkE.ok, OkE.nox, OkE.comp, OkS.nxt, OkS.rtn, mIf, mTest, mBin, mVar, mC, mCall, mCons, mNil, mStar, mSl, mPart, mNoPart, mMeth, mMeth0, mTup, mLst, mLstR, mNeg, mNot, mAnd, mOr, mAndV, mOrV, mNotV, mYes, mRng1, mWk, mEnum, mEnumZip, mZip, mFn, mPar, mPar3, mAug, mIsi, mExpr, gSet, gTupW, gConsW, gNilW, gPut, seqT, startW, wipeW, cName, cTup, cCons, cNil, oIntX, oInt, oAbs, oMin2, oGt, oGe, oLt, oLe, oMod, oFdiv, oSub, oIAdd, Res.bind_ok, Res.toS_ok, noX_okk, List.map_cons, List.map_nil, List.cons_append, List.nil_append, List.append_nil, List.getElem?_cons_zero, List.getElem?_cons_succ, List.set_cons_zero, List.set_cons_succ, List.length_cons, List.length_nil, List.replicate, Nat.reduceAdd, Nat.reduceSub, Nat.add_eq, Nat.add_zero, Nat.sub_self, if_true, if_false, Bool.false_eq_true, reduceIte, Option.getD_some, o_addI, o_slT, o_slS, o_slL, o_lenS, o_lenT, o_lenL, o_lenSc, o_tupS, o_tupL, o_tupT, o_ixT0, o_ixT1, o_ixT2, o_ixL0, o_ixL1, ty_str, sizeLine_eq, Nat.reduceLeDiff, Nat.zero_le, Nat.reduceLT, Int.reduceLT, Int.reduceLE, Int.reduceNeg, and_self, and_true, true_and, Int.reduceToNat]
        rw [ix_ruleT hg (hrk k h)]
        simp -implicitDefEqProofs only [OkS.ret, OkS.seq, OkS.asg, OkS.exp, OkS.ite, OkS.skip, OkS.brk, OkS.cnt, OkS.for, OkS.while, OkE.bnd, OkE.toS, OkE.ok, OkE.nox, OkE.comp, OkS.nxt, OkS.rtn, mIf, mTest, mBin, mVar, mC, mCall, mCons, mNil, mStar, mSl, mPart, mNoPart, mMeth, mMeth0, mTup, mLst, mLstR, mNeg, mNot, mAnd, mOr, mAndV, mOrV, mNotV, mYes, mRng1, mWk, mEnum, mEnumZip, mZip, mFn, mPar, mPar3, mAug, mIsi, mExpr, gSet, gTupW, gConsW, gNilW, gPut, seqT, startW, wipeW, cName, cTup, cCons, cNil, oIntX, oInt, oAbs, oMin2, oGt, oGe, oLt, oLe, oMod, oFdiv, oSub, oIAdd, Res.bind_ok, Res.toS_ok, noX_okk, List.map_cons, List.map_nil, List.cons_append, List.nil_append, List.append_nil, List.getElem?_cons_zero, List.getElem?_cons_succ, List.set_cons_zero, List.set_cons_succ, List.length_cons, List.length_nil, List.replicate, Nat.reduceAdd, Nat.reduceSub, Nat.add_eq, Nat.add_zero, Nat.sub_self, if_true, if_false, Bool.false_eq_true, reduceIte, Option.getD_some, o_addI, o_slT, o_slS, o_slL, o_lenS, o_lenT, o_lenL, o_lenSc, o_tupS, o_tupL, o_tupT, o_ixT0, o_ixT1, o_ixT2, o_ixL0, o_ixL1, ty_str, sizeLine_eq, Nat.reduceLeDiff, Nat.zero_le, Nat.reduceLT, Int.reduceLT, Int.reduceLE, Int.reduceNeg, and_self, and_true, true_and, Int.reduceToNat]
        rfl
      · refine ⟨?_, CutOk.append, ⟨rk, rfl⟩, st_take⟩
        rw [W.isData]
        exact allData_map (fun k => rfl) _
  obtain ⟨w, S', e, ⟨rk, rfl⟩, rfl⟩ := this.ex
  exact ⟨rk, e⟩
end Gen
namespace Gen
open PySem PySem.Spec PyProof.Rows L2 Eng
def succR (rs : List Rule) (r : List Str) : List (List Str) := (places rs r).map (joinAt r)
def isEnd (rs : List Rule) (r : List Str) : Bool := (places rs r).isEmpty
def wtN : Nat → Nat
  | 0 => 1
  | L + 1 => 1 + L * wtN L
def wtR (r : List Str) : Nat := wtN r.length
theorem places_mem {rs : List Rule} {r : List Str} {k : Nat} (h : k ∈ places rs r) : k + 1 < r.length := by
  unfold places at h
  have := (List.mem_filter.mp h).1
  have := List.mem_range.mp this
  omega
theorem sum_const {α : Type} {f : α → Nat} {c : Nat} : ∀ {l : List α}, (∀ x ∈ l, f x = c) → (l.map f).sum = l.length * c
  | [], _ => by simp
  | x :: l, h => by
    rw [List.map_cons, List.sum_cons, h x (by simp), sum_const (l := l) fun y hy => h y (List.mem_cons_of_mem _ hy), List.length_cons, Nat.succ_mul]
    omega
theorem wt_fall (rs : List Rule) (r : List Str) : ((succR rs r).map wtR).sum < wtR r := by
  unfold succR
  rw [List.map_map, sum_const (c := wtN (r.length - 1)) (fun k hk => by
    have := joinAt_len (places_mem hk)
    show wtN (joinAt r k).length = _
    congr 1
    omega)]
  have h1 : (places rs r).length ≤ r.length - 1 := by
    have := List.length_filter_le (fits rs r) (List.range (r.length - 1))
    rw [List.length_range] at this
    exact this
  unfold wtR
  cases e : r.length with
  | zero =>
    rw [e] at h1
    have : (places rs r).length = 0 := by omega
    rw [this]
    simp [wtN]
  | succ L =>
    rw [e] at h1
    simp only [Nat.add_sub_cancel] at h1 ⊢
    rw [wtN]
    have := Nat.mul_le_mul_right (wtN L) h1
    omega
theorem wt_le {r : List Str} (h : r.length ≤ 8) : wtR r ≤ 13700 := by
  unfold wtR
  have : ∀ n, n ≤ 8 → wtN n ≤ 13700 := by decide
  exact this _ h
theorem wt_pos (r : List Str) : 1 ≤ wtR r := by
  unfold wtR
  cases r.length <;> simp [wtN]
structure RowOk (r : List Str) : Prop where
  len : r.length ≤ 8
  sum : rlen r ≤ 8
theorem RowOk.reach {rs : List Rule} {r0 : List Str} (h0 : RowOk r0) {r : List Str} (h : Reach (succR rs) r0 r) : RowOk r := by
  induction h with
  | refl => exact h0
  | step _ hs ih =>
    obtain ⟨k, hk, rfl⟩ := List.mem_map.mp hs
    have hk := places_mem hk
    have := joinAt_len hk
    have := ih.len
    refine ⟨by omega, ?_⟩
    rw [joinAt_rlen hk]
    exact ih.sum
theorem ne_reach {rs : List Rule} {r0 : List Str} (h0 : r0 ≠ []) {r : List Str} (h : Reach (succR rs) r0 r) : r ≠ [] := by
  induction h with
  | refl => exact h0
  | step _ hs ih =>
    obtain ⟨k, hk, rfl⟩ := List.mem_map.mp hs
    unfold joinAt
    simp
theorem nil_reach {rs : List Rule} {r : List Str} (h : Reach (succR rs) [] r) : r = [] := by
  induction h with
  | refl => rfl
  | step _ hs ih =>
    subst ih
    simp [succR, places] at hs
def knownW (l : List (List Str)) : List (List Key × W) := l.map fun r => (r.map Sum.inr, .bl true)
theorem in_known {l : List (List Str)} {r : List Str} {S : Store} {n : Nat} (hS : S[n]? = some (.dT (knownW l))) : oNotIn (rowW r) (.ref n) S = .ok (.bl (!decide (r ∈ l))) S := by
  unfold oNotIn inS
  simp only [lookS, rowW]
  rw [hS]
  simp only
  rw [keysW_strs]
  simp only [Option.map_some]
  unfold knownW
  rw [valW_const (k := fun r : List Str => r.map (Sum.inr : Str → Key)) keysR_inj]
  by_cases h : r ∈ l <;> simp [h]
theorem put_known {l : List (List Str)} {r : List Str} {S : Store} {n : Nat} (hS : S[n]? = some (.dT (knownW l))) (hl : l.length < 1000000) (h : r ∉ l) : putS (.ref n) (rowW r) (.bl true) S = some (S.set n (.dT (knownW (l ++ [r])))) := by
  unfold putS rowW
  simp only
  rw [hS]
  simp only
  rw [keysW_strs]
  simp only
  rw [if_pos (by unfold knownW; rw [List.length_map, sizeLine_eq]; omega)]
  unfold knownW
  rw [putW_new (k := fun r : List Str => r.map (Sum.inr : Str → Key)) keysR_inj h]
theorem ends_ne {rs : List Rule} {r0 : List Str} {l : List (List Str)} (h : Full (succR rs) r0 l) : (l.filter (isEnd rs)).length < 2 ∨ [] ∉ l.filter (isEnd rs) := by
  by_cases h0 : r0 = []
  · subst h0
    left
    have : l.length ≤ 1 := by
      match l, h with
      | [], _ => simp
      | [_], _ => simp
      | a :: b :: l, h =>
        have h1 := nil_reach ((h.all a).mp (by simp))
        have h2 := nil_reach ((h.all b).mp (by simp))
        have := h.nd
        rw [h1, h2] at this
        simp at this
    have := List.length_filter_le (isEnd rs) l
    omega
  · right
    intro hm
    exact ne_reach h0 ((h.all []).mp (List.mem_filter.mp hm).1) rfl
theorem rows_data (l : List (List Str)) : (W.tup (l.map rowW)).isData = true := (embT (embT embS)).data l
theorem len_le_sum {α : Type} {f : α → Nat} {l : List α} (h : ∀ x, 1 ≤ f x) : l.length ≤ (l.map f).sum := by
  induction l with
  | nil => simp
  | cons x l ih => have := h x; simp; omega
theorem places_dat (rk : Nat → Int) : ∀ l : List Nat, datL (l.map (placeW rk)) = some (l.map fun k => .tuple [.int (k : Nat), .int (rk k)])
  | [] => rfl
  | k :: l => by rw [List.map_cons, datL, places_dat rk l]; rfl
theorem o_eqNil {xs : List W} {ds : List PyData} {S : Store} (h : datL xs = some ds) : oEq (.tup xs) (.tup []) S = .ok (.bl xs.isEmpty) S := by
  unfold oEq eqS datS
  simp only [dat, datL, h, Option.map_some]
  have e : (PyData.tuple ([] : List PyData)).depth = 1 := by rw [PyData.depth, PyData.depthAll]
  rw [if_pos (by rw [e]; omega)]
  simp only
  congr 2
  rw [PyData.eqv]
  cases xs with
  | nil => rw [datL] at h; cases h; simp [PyData.eqvAll]
  | cons x xs =>
    cases ds with
    | nil =>
      rw [datL] at h
      cases e1 : dat x with
      | none => rw [e1] at h; cases h
      | some d => cases e2 : datL xs with
        | none => rw [e1, e2] at h; cases h
        | some d2 => rw [e1, e2] at h; cases h
    | cons d ds => simp [PyData.eqvAll]
theorem ends_for {ls : List Str} {rs : List Rule} {m : Str} {z : Str} {S : Store} {n : Nat} {known done ws : List (List Str)} {r : List Str} {x7 x8 x9 : Option W} {rk : Nat → Int} {rt : W → Store → Prop} {bk : ASt → Store → Prop} (h1 : rs.length ≤ 1000)
    (I : SA wtR 13700 (succR rs) (signsS z) known (ws ++ [r]) done) (hO : RowOk r) (hn : (List.map wtR (ws ++ [r])).sum ≤ n) (hkl : known.length ≤ 13700)
    (g1 : ∀ (a b c : Ob), (S ++ [a, b, c])[List.length S]? = some a) (g2 : ∀ (a b c : Ob), (S ++ [a, b, c])[List.length S + 1]? = some b) (g3 : ∀ (a b c : Ob), (S ++ [a, b, c])[List.length S + 2]? = some c)
    (s1 : ∀ (a b c d : Ob), List.set (S ++ [a, b, c]) (List.length S) d = S ++ [d, b, c]) (s2 : ∀ (a b c d : Ob), List.set (S ++ [a, b, c]) (List.length S + 1) d = S ++ [a, d, c]) (s3 : ∀ (a b c d : Ob), List.set (S ++ [a, b, c]) (List.length S + 2) d = S ++ [a, b, d]) :
    OkS
        (forGo (Wk.items (List.map (placeW rk) (places rs r))) (gTupW 2 (gConsW (gSet 7) (gConsW (gSet 8) gNilW)))
          (mSeq (mAsg (mFn 2 m_joined_at [] (mCons (mVar 2) (mCons (mVar 7) mNil))) (gSet 9))
            (mIfS (mTest (mBin oNotIn (mVar 9) (mVar 3)))
              (mSeq (mAsg (mC (W.bl true)) (gPut (mVar 3) (mVar 9)))
                (mExpr (mMeth "list" oAppend (mVar 4) (mCons (mVar 9) mNil))))
              mSkip))
          (Wk.items (List.map (placeW rk) (places rs r))).len 0
          [some (tabW ls rs m), some (W.str z), some (rowW r), some (W.ref (List.length S)),
            some (W.ref (List.length S + 1)), some (W.ref (List.length S + 2)),
            some (W.tup (List.map (placeW rk) (places rs r))), x7, x8, x9]
          (S ++ [Ob.dT (knownW known), Ob.lst (List.map rowW ws), Ob.lst (List.map rowW (List.filter (isEnd rs) (done ++ [r])))]))
        {
          nx := fun τ S' =>
            ∃ known waiting done r x6 x7 x8 x9,
              τ =
                  [some (tabW ls rs m), some (W.str z), some (rowW r), some (W.ref (List.length S)),
                    some (W.ref (List.length S + 1)), some (W.ref (List.length S + 2)), x6, x7, x8, x9] ∧
                S' =
                    S ++
                      [Ob.dT (knownW known), Ob.lst (List.map rowW waiting),
                        Ob.lst (List.map rowW (List.filter (isEnd rs) done))] ∧
                  SA wtR 13700 (succR rs) (signsS z) known waiting done ∧ (List.map wtR waiting).sum ≤ n - 1,
          rt := rt, bk := bk,
          ct := fun τ S' =>
            ∃ known waiting done r x6 x7 x8 x9,
              τ =
                  [some (tabW ls rs m), some (W.str z), some (rowW r), some (W.ref (List.length S)),
                    some (W.ref (List.length S + 1)), some (W.ref (List.length S + 2)), x6, x7, x8, x9] ∧
                S' =
                    S ++
                      [Ob.dT (knownW known), Ob.lst (List.map rowW waiting),
                        Ob.lst (List.map rowW (List.filter (isEnd rs) done))] ∧
                  SA wtR 13700 (succR rs) (signsS z) known waiting done ∧ (List.map wtR waiting).sum ≤ n - 1 } := by
  have hpl : (places rs r).length ≤ 8 := by
    have := List.length_filter_le (fits rs r) (List.range (r.length - 1))
    rw [List.length_range] at this
    have := hO.len
    unfold places
    omega
  have hwl : ws.length ≤ 13700 := by
    have h2 := I.perm.length_eq
    simp at h2
    omega
  refine for_map (fun pre τ S' => ∃ new x7 x8 x9, τ = [some (tabW ls rs m), some (W.str z), some (rowW r), some (W.ref (List.length S)), some (W.ref (List.length S + 1)), some (W.ref (List.length S + 2)), some (W.tup (List.map (placeW rk) (places rs r))), x7, x8, x9] ∧
    S' = S ++ [Ob.dT (knownW (known ++ new)), Ob.lst ((ws ++ new).map rowW), Ob.lst (List.map rowW (List.filter (isEnd rs) (done ++ [r])))] ∧ List.Sublist new (pre.map (joinAt r)) ∧ (∀ s ∈ pre.map (joinAt r), s ∈ known ++ new) ∧ (known ++ new).Nodup) ⟨[], x7, x8, x9, rfl, by simp, by simp, by simp, by simpa using I.nd⟩ ?_ ?_
  · rintro pre k post τ S' e ⟨new, y7, y8, y9, rfl, rfl, hs, hm, hd⟩
    have hk : k + 1 < r.length := places_mem (rs := rs) (by rw [e]; simp)
    have hnl : new.length ≤ 8 := by
      have h2 := hs.length_le
      have h3 := congrArg List.length e
      simp at h2 h3
      omega
    have ej : ∀ S, m_joined_at [rowW r, .int (k : Nat)] S = .ok (rowW (joinAt r k)) S := fun S => joined_eq hk (by have := hO.sum; omega) (by have := hO.len; omega)
    simp -implicitDefEqProofs only [OkS.ret, OkS.seq, OkS.asg, OkS.exp, OkS.ite, OkS.skip, OkS.brk, OkS.cnt, OkS.for, OkS.while, OkE.bnd, OkE.toS, OkE.ok, OkE.nox, OkE.comp, OkS.nxt, OkS.rtn, mIf, mTest, mBin, mVar, mC, mCall, mCons, mNil, mStar, mSl, mPart, mNoPart, mMeth, mMeth0, mTup, mLst, mLstR, mNeg, mNot, mAnd, mOr, mAndV, mOrV, mNotV, mYes, mRng1, mWk, mEnum, mEnumZip, mZip, mFn, mPar, mPar3, mAug, mIsi, mExpr, gSet, gTupW, gConsW, gNilW, gPut, seqT, startW, wipeW, cName, cTup, cCons, cNil, oIntX, oInt, oAbs, oMin2, oGt, oGe, oLt, oLe, oMod, oFdiv, oSub, oIAdd, Res.bind_ok, Res.toS_ok, noX_okk, List.map_cons, List.map_nil, List.cons_append, List.nil_append, List.append_nil, List.getElem?_cons_zero, List.getElem?_cons_succ, List.set_cons_zero, List.set_cons_succ, List.length_cons, List.length_nil, List.replicate, Nat.reduceAdd, Nat.reduceSub, Nat.add_eq, Nat.add_zero, Nat.sub_self, if_true, if_false, Bool.false_eq_true, reduceIte, Option.getD_some, o_addI, o_slT, o_slS, o_slL, o_lenS, o_lenT, o_lenL, o_lenSc, o_tupS, o_tupL, o_tupT, o_ixT0, o_ixT1, o_ixT2, o_ixL0, o_ixL1, ty_str, sizeLine_eq, Nat.reduceLeDiff, Nat.zero_le, Nat.reduceLT, Int.reduceLT, Int.reduceLE, Int.reduceNeg, and_self, and_true, true_and, Int.reduceToNat, placeW, ej, in_known (g1 _ _ _)]
    by_cases hi : joinAt r k ∈ known ++ new
    · simp only [hi, decide_true, Bool.not_true, Bool.false_eq_true, if_false]
      refine ⟨new, _, _, _, rfl, rfl, ?_, ?_, hd⟩
      · rw [List.map_append]
        exact hs.trans (List.sublist_append_left _ _)
      · intro s hs2
        rw [List.map_append] at hs2
        rcases List.mem_append.mp hs2 with h | h
        · exact hm s h
        · have : s = joinAt r k := by simpa using h
          rw [this]; exact hi
    · simp -implicitDefEqProofs only [OkS.ret, OkS.seq, OkS.asg, OkS.exp, OkS.ite, OkS.skip, OkS.brk, OkS.cnt, OkS.for, OkS.while, OkE.bnd, OkE.toS, OkE.ok, OkE.nox, OkE.comp, OkS.nxt, OkS.rtn, mIf, mTest, mBin, mVar, mC, mCall, mCons, mNil, mStar, mSl, mPart, mNoPart, mMeth, mMeth0, mTup, mLst, mLstR, mNeg, mNot, mAnd, mOr, mAndV, mOrV, mNotV, mYes, mRng1, mWk, mEnum, mEnumZip, mZip, mFn, mPar, mPar3, mAug, mIsi, mExpr, gSet, gTupW, gConsW, gNilW, gPut, seqT, startW, wipeW, cName, cTup, cCons, cNil, oIntX, oInt, oAbs, oMin2, oGt, oGe, oLt, oLe, oMod, oFdiv, oSub, oIAdd, Res.bind_ok, Res.toS_ok, noX_okk, List.map_cons, List.map_nil, List.cons_append, List.nil_append, List.append_nil, List.getElem?_cons_zero, List.getElem?_cons_succ, List.set_cons_zero, List.set_cons_succ, List.length_cons, List.length_nil, List.replicate, Nat.reduceAdd, Nat.reduceSub, Nat.add_eq, Nat.add_zero, Nat.sub_self, if_true, if_false, Bool.false_eq_true, reduceIte, Option.getD_some, o_addI, o_slT, o_slS, o_slL, o_lenS, o_lenT, o_lenL, o_lenSc, o_tupS, o_tupL, o_tupT, o_ixT0, o_ixT1, o_ixT2, o_ixL0, o_ixL1, ty_str, sizeLine_eq, Nat.reduceLeDiff, Nat.zero_le, Nat.reduceLT, Int.reduceLT, Int.reduceLE, Int.reduceNeg, and_self, and_true, true_and, Int.reduceToNat, hi, decide_false, Bool.not_false, put_known (g1 _ _ _) (show (known ++ new).length < 1000000 by rw [List.length_append]; omega) hi, s1, ty_ref (g2 _ _ _)]
      rw [o_app (g2 _ _ _) (by rw [List.length_map, List.length_append, sizeLine_eq]; omega), OkE.ok, s2]
      refine ⟨new ++ [joinAt r k], _, _, _, rfl, ?_, ?_, ?_, ?_⟩
      · rw [List.append_assoc, ← List.append_assoc ws, List.map_append (l₁ := ws ++ new)]
        rfl
      · rw [List.map_append]
        exact List.Sublist.append hs (List.Sublist.refl _)
      · intro s hs2
        rw [List.map_append] at hs2
        rw [← List.append_assoc]
        rcases List.mem_append.mp hs2 with h | h
        · exact List.mem_append_left _ (hm s h)
        · exact List.mem_append_right _ h
      · rw [← List.append_assoc, List.nodup_append]
        refine ⟨hd, by simp, fun a ha b hb => ?_⟩
        have : b = joinAt r k := by simpa using hb
        subst this
        exact fun z => hi (z ▸ ha)
  · rintro τ S' ⟨new, y7, y8, y9, rfl, rfl, hs, hm, hd⟩
    have hst := I.step (wt_fall rs r) hs hm hd
    refine ⟨known ++ new, ws ++ new, done ++ [r], r, _, _, _, _, rfl, rfl, hst, ?_⟩
    have h2 := wt_fall rs r
    have h3 := sum_sub wtR hs
    have h4 : ((succR rs r).map wtR).sum = (((places rs r).map (joinAt r)).map wtR).sum := rfl
    simp only [List.map_append, List.sum_append, List.map_cons, List.map_nil, List.sum_cons, List.sum_nil] at hn ⊢
    omega
theorem ends_eq {ls : List Str} {rs : List Rule} {m : Str} {z : Str} {S : Store} (h1 : rs.length ≤ 1000) (h0 : RowOk (signsS z)) :
    ∃ l, (Full (succR rs) (signsS z) l ∧ l.length ≤ 13700) ∧ m_ends_of [tabW ls rs m, .str z] S = .ok (.tup ((srt (lexL ltS) (l.filter (isEnd rs))).map rowW)) S := by
  have : OkE (m_ends_of [tabW ls rs m, .str z] S) fun w S' => (∃ l, (Full (succR rs) (signsS z) l ∧ l.length ≤ 13700) ∧ w = .tup ((srt (lexL ltS) (l.filter (isEnd rs))).map rowW)) ∧ S' = S := by
    unfold m_ends_of fnRes b_ends_of
    refine OkE.leave ?_
    have e0 : Eng.putAll (Ob.dT []) [(W.tup (signsW z), W.bl true)] = some (.dT (knownW [signsS z])) := by
      unfold Eng.putAll putOb signsW
      simp only
      rw [keysW_strs]
      simp -implicitDefEqProofs only [OkS.ret, OkS.seq, OkS.asg, OkS.exp, OkS.ite, OkS.skip, OkS.brk, OkS.cnt, OkS.for, OkS.while, OkE.bnd, OkE.toS, OkE.ok, OkE.nox, OkE.comp, OkS.nxt, OkS.rtn, mIf, mTest, mBin, mVar, mC, mCall, mCons, mNil, mStar, mSl, mPart, mNoPart, mMeth, mMeth0, mTup, mLst, mLstR, mNeg, mNot, mAnd, mOr, mAndV, mOrV, mNotV, mYes, mRng1, mWk, mEnum, mEnumZip, mZip, mFn, mPar, mPar3, mAug, mIsi, mExpr, gSet, gTupW, gConsW, gNilW, gPut, seqT, startW, wipeW, cName, cTup, cCons, cNil, oIntX, oInt, oAbs, oMin2, oGt, oGe, oLt, oLe, oMod, oFdiv, oSub, oIAdd, Res.bind_ok, Res.toS_ok, noX_okk, List.map_cons, List.map_nil, List.cons_append, List.nil_append, List.append_nil, List.getElem?_cons_zero, List.getElem?_cons_succ, List.set_cons_zero, List.set_cons_succ, List.length_cons, List.length_nil, List.replicate, Nat.reduceAdd, Nat.reduceSub, Nat.add_eq, Nat.add_zero, Nat.sub_self, if_true, if_false, Bool.false_eq_true, reduceIte, Option.getD_some, o_addI, o_slT, o_slS, o_slL, o_lenS, o_lenT, o_lenL, o_lenSc, o_tupS, o_tupL, o_tupT, o_ixT0, o_ixT1, o_ixT2, o_ixL0, o_ixL1, ty_str, sizeLine_eq, Nat.reduceLeDiff, Nat.zero_le, Nat.reduceLT, Int.reduceLT, Int.reduceLE, Int.reduceNeg, and_self, and_true, true_and, Int.reduceToNat]
      rfl
    simp -implicitDefEqProofs only [OkS.ret, OkS.seq, OkS.asg, OkS.exp, OkS.ite, OkS.skip, OkS.brk, OkS.cnt, OkS.for, OkS.while, OkE.bnd, OkE.toS, OkE.ok, OkE.nox, OkE.comp, OkS.nxt, OkS.rtn, mIf, mTest, mBin, mVar, mC, mCall, mCons, mNil, mStar, mSl, mPart, mNoPart, mMeth, mMeth0, mTup, mLst, mLstR, mNeg, mNot, mAnd, mOr, mAndV, mOrV, mNotV, mYes, mRng1, mWk, mEnum, mEnumZip, mZip, mFn, mPar, mPar3, mAug, mIsi, mExpr, gSet, gTupW, gConsW, gNilW, gPut, seqT, startW, wipeW, cName, cTup, cCons, cNil, oIntX, oInt, oAbs, oMin2, oGt, oGe, oLt, oLe, oMod, oFdiv, oSub, oIAdd, Res.bind_ok, Res.toS_ok, noX_okk, List.map_cons, List.map_nil, List.cons_append, List.nil_append, List.append_nil, List.getElem?_cons_zero, List.getElem?_cons_succ, List.set_cons_zero, List.set_cons_succ, List.length_cons, List.length_nil, List.replicate, Nat.reduceAdd, Nat.reduceSub, Nat.add_eq, Nat.add_zero, Nat.sub_self, if_true, if_false, Bool.false_eq_true, reduceIte, Option.getD_some, o_addI, o_slT, o_slS, o_slL, o_lenS, o_lenT, o_lenL, o_lenSc, o_tupS, o_tupL, o_tupT, o_ixT0, o_ixT1, o_ixT2, o_ixL0, o_ixL1, ty_str, sizeLine_eq, Nat.reduceLeDiff, Nat.zero_le, Nat.reduceLT, Int.reduceLT, Int.reduceLE, Int.reduceNeg, and_self, and_true, true_and, Int.reduceToNat, mDisp, mPairs, e0, List.append_assoc]
    refine while_ok (fun n τ S' => ∃ known waiting done r x6 x7 x8 x9, τ = [some (tabW ls rs m), some (.str z), some (rowW r), some (.ref S.length), some (.ref (S.length + 1)), some (.ref (S.length + 2)), x6, x7, x8, x9] ∧ S' = S ++ [.dT (knownW known), .lst (waiting.map rowW), .lst ((done.filter (isEnd rs)).map rowW)] ∧ SA wtR 13700 (succR rs) (signsS z) known waiting done ∧ (waiting.map wtR).sum ≤ n) ?_ 1000000 (wtR (signsS z)) _ _ (by have := wt_le h0.len; omega) ?_
    · rintro n τ S' ⟨known, waiting, done, rr, x6, x7, x8, x9, rfl, rfl, I, hn⟩
      have g1 : ∀ a b c : Ob, (S ++ [a, b, c])[S.length]? = some a := fun a b c => st_get0
      have g2 : ∀ a b c : Ob, (S ++ [a, b, c])[S.length + 1]? = some b := fun a b c => st_get 1
      have g3 : ∀ a b c : Ob, (S ++ [a, b, c])[S.length + 2]? = some c := fun a b c => st_get 2
      have s1 : ∀ a b c d : Ob, (S ++ [a, b, c]).set S.length d = S ++ [d, b, c] := fun a b c d => st_set0
      have s2 : ∀ a b c d : Ob, (S ++ [a, b, c]).set (S.length + 1) d = S ++ [a, d, c] := fun a b c d => st_set 1
      have s3 : ∀ a b c d : Ob, (S ++ [a, b, c]).set (S.length + 2) d = S ++ [a, b, d] := fun a b c d => st_set 2
      rcases List.eq_nil_or_concat waiting with hw | ⟨ws, r, hw⟩
      · subst hw
        have hf := I.fin
        have hns : (done.filter (isEnd rs)).length < 2 ∨ [] ∉ done.filter (isEnd rs) := ends_ne hf
        simp -implicitDefEqProofs only [OkS.ret, OkS.seq, OkS.asg, OkS.exp, OkS.ite, OkS.skip, OkS.brk, OkS.cnt, OkS.for, OkS.while, OkE.bnd, OkE.toS, OkE.ok, OkE.nox, OkE.comp, OkS.nxt, OkS.rtn, mIf, mTest, mBin, mVar, mC, mCall, mCons, mNil, mStar, mSl, mPart, mNoPart, mMeth, mMeth0, mTup, mLst, mLstR, mNeg, mNot, mAnd, mOr, mAndV, mOrV, mNotV, mYes, mRng1, mWk, mEnum, mEnumZip, mZip, mFn, mPar, mPar3, mAug, mIsi, mExpr, gSet, gTupW, gConsW, gNilW, gPut, seqT, startW, wipeW, cName, cTup, cCons, cNil, oIntX, oInt, oAbs, oMin2, oGt, oGe, oLt, oLe, oMod, oFdiv, oSub, oIAdd, Res.bind_ok, Res.toS_ok, noX_okk, List.map_cons, List.map_nil, List.cons_append, List.nil_append, List.append_nil, List.getElem?_cons_zero, List.getElem?_cons_succ, List.set_cons_zero, List.set_cons_succ, List.length_cons, List.length_nil, List.replicate, Nat.reduceAdd, Nat.reduceSub, Nat.add_eq, Nat.add_zero, Nat.sub_self, if_true, if_false, Bool.false_eq_true, reduceIte, Option.getD_some, o_addI, o_slT, o_slS, o_slL, o_lenS, o_lenT, o_lenL, o_lenSc, o_tupS, o_tupL, o_tupT, o_ixT0, o_ixT1, o_ixT2, o_ixL0, o_ixL1, ty_str, sizeLine_eq, Nat.reduceLeDiff, Nat.zero_le, Nat.reduceLT, Int.reduceLT, Int.reduceLE, Int.reduceNeg, and_self, and_true, true_and, Int.reduceToNat, o_lenR (g2 _ _ _), Int.natCast_zero, Int.lt_irrefl, decide_false, o_sortRR (g3 _ _ _) hns]
        refine ⟨rows_data _, CutOk.append, ⟨done, ⟨hf, by have := I.bound; omega⟩, rfl⟩, st_take⟩
      · rw [List.concat_eq_append] at hw
        subst hw
        have hR : Reach (succR rs) (signsS z) r := I.reach r (I.perm.mem_iff.mpr (by simp))
        have hO := h0.reach hR
        have hb := I.bound
        have hfl := List.length_filter_le (isEnd rs) done
        obtain ⟨rk, ep⟩ := places_eq (ls := ls) (rs := rs) (m := m) (r := r) (S := S ++ [.dT (knownW known), .lst (ws.map rowW), .lst ((done.filter (isEnd rs)).map rowW)]) h1 (by have := hO.len; omega)
        have hkl : known.length ≤ 13700 := by
          have h1 := I.perm.length_eq
          have h2 := len_le_sum (l := ws ++ [r]) wt_pos
          rw [List.length_append] at h1
          omega
        have epop : oPop (.ref (S.length + 1)) [] (S ++ [.dT (knownW known), .lst ((ws ++ [r]).map rowW), .lst ((done.filter (isEnd rs)).map rowW)]) = .ok (rowW r) (S ++ [.dT (knownW known), .lst (ws.map rowW), .lst ((done.filter (isEnd rs)).map rowW)]) := by
          rw [o_pop (xs := ws.map rowW) (x := rowW r) (by rw [g2, List.map_append]; rfl), s2]
        have ht : (0 : Int) < (((ws ++ [r]).length : Nat) : Int) := by rw [List.length_append, List.length_cons, List.length_nil]; omega
        have eE : ∀ S, oEq (.tup ((places rs r).map (placeW rk))) (.tup []) S = .ok (.bl (isEnd rs r)) S := fun S => by rw [o_eqNil (places_dat rk _)]; simp [isEnd]
        simp -implicitDefEqProofs only [OkS.ret, OkS.seq, OkS.asg, OkS.exp, OkS.ite, OkS.skip, OkS.brk, OkS.cnt, OkS.for, OkS.while, OkE.bnd, OkE.toS, OkE.ok, OkE.nox, OkE.comp, OkS.nxt, OkS.rtn, mIf, mTest, mBin, mVar, mC, mCall, mCons, mNil, mStar, mSl, mPart, mNoPart, mMeth, mMeth0, mTup, mLst, mLstR, mNeg, mNot, mAnd, mOr, mAndV, mOrV, mNotV, mYes, mRng1, mWk, mEnum, mEnumZip, mZip, mFn, mPar, mPar3, mAug, mIsi, mExpr, gSet, gTupW, gConsW, gNilW, gPut, seqT, startW, wipeW, cName, cTup, cCons, cNil, oIntX, oInt, oAbs, oMin2, oGt, oGe, oLt, oLe, oMod, oFdiv, oSub, oIAdd, Res.bind_ok, Res.toS_ok, noX_okk, List.map_cons, List.map_nil, List.cons_append, List.nil_append, List.append_nil, List.getElem?_cons_zero, List.getElem?_cons_succ, List.set_cons_zero, List.set_cons_succ, List.length_cons, List.length_nil, List.replicate, Nat.reduceAdd, Nat.reduceSub, Nat.add_eq, Nat.add_zero, Nat.sub_self, if_true, if_false, Bool.false_eq_true, reduceIte, Option.getD_some, o_addI, o_slT, o_slS, o_slL, o_lenS, o_lenT, o_lenL, o_lenSc, o_tupS, o_tupL, o_tupT, o_ixT0, o_ixT1, o_ixT2, o_ixL0, o_ixL1, ty_str, sizeLine_eq, Nat.reduceLeDiff, Nat.zero_le, Nat.reduceLT, Int.reduceLT, Int.reduceLE, Int.reduceNeg, and_self, and_true, true_and, Int.reduceToNat, o_lenR (g2 _ _ _), List.length_map, ht, decide_true, ty_ref (g2 _ _ _), epop, ep, eE]
        refine ⟨n - 1, ?_, ?_⟩
        · have := wt_pos r
          simp only [List.map_append, List.sum_append, List.map_cons, List.map_nil, List.sum_cons, List.sum_nil] at hn
          omega
        by_cases hE : isEnd rs r = true
        · have hF : (done ++ [r]).filter (isEnd rs) = done.filter (isEnd rs) ++ [r] := by rw [List.filter_append, List.filter_cons, if_pos hE]; simp
          rw [if_pos hE]
          simp only [ty_ref (g3 _ _ _), if_true, OkE.nox, o_app (g3 _ _ _) (show (List.map rowW (List.filter (isEnd rs) done)).length < sizeLine by rw [List.length_map, sizeLine_eq]; omega), s3, OkE.ok]
          rw [show List.map rowW (List.filter (isEnd rs) done) ++ [rowW r] = List.map rowW ((done ++ [r]).filter (isEnd rs)) by rw [hF, List.map_append]; rfl]
          exact ends_for h1 I hO hn hkl g1 g2 g3 s1 s2 s3
        · have hF : (done ++ [r]).filter (isEnd rs) = done.filter (isEnd rs) := by rw [List.filter_append, List.filter_cons, if_neg hE]; simp
          rw [if_neg hE, ← hF]
          exact ends_for h1 I hO hn hkl g1 g2 g3 s1 s2 s3
    · refine ⟨[signsS z], [signsS z], [], signsS z, none, none, none, none, ?_, rfl, ⟨by simp, by simp, by simp, fun r hr => ?_, fun r hr => (by cases hr), ?_⟩, by simp⟩
      · simp only [List.length_append, List.length_cons, List.length_nil]
        rfl
      · have : r = signsS z := by simpa using hr
        subst this
        exact .refl
      · have := wt_le h0.len
        simp
        exact this
  obtain ⟨w, S', e, ⟨l, hl, rfl⟩, rfl⟩ := this.ex
  exact ⟨l, hl, e⟩
end Gen
namespace Gen
open PySem PySem.Spec PyProof.Rows L2 Eng
def intW (k : Nat) : W := .int (k : Nat)
theorem in_rules {rs : List Rule} {p : Rule} {S : Store} : oIn (ruleW p) (.tup (rs.map ruleW)) S = .ok (.bl (decide (p ∈ rs))) S := by
  unfold oIn
  rw [show ruleW p = embR.w p from rfl, show rs.map ruleW = rs.map embR.w from rfl, inS_tup embR (by decide)]
  by_cases h : p ∈ rs <;> simp [h]
theorem len_row {r : List Str} {S : Store} : oLen [rowW r] S = .ok (.int (r.length : Nat)) S := by rw [rowW, o_lenT, List.length_map]
theorem ix_row {r : List Str} {k : Nat} {S : Store} (hk : k < r.length) : oIx (rowW r) (.int (k : Nat)) S = .ok (.str (r.getD k default)) S := o_ixT (by rw [atI_n, List.getElem?_map, List.getElem?_eq_getElem hk, getD_at hk]; rfl)
theorem ix_row1 {r : List Str} {k : Nat} {S : Store} (hk : k + 1 < r.length) : oIx (rowW r) (.int ((k : Nat) + 1)) S = .ok (.str (r.getD (k + 1) default)) S := by
  rw [show ((k : Nat) : Int) + 1 = ((k + 1 : Nat) : Int) by omega]
  exact ix_row hk
theorem sl_to {r : List Str} {k : Nat} {S : Store} : oSl (rowW r) none (some (k : Nat)) S = .ok (rowW (r.take k)) S := by rw [rowW, o_slT, cutW_to, rowW, List.map_take]
theorem sl_from2 {r : List Str} {k : Nat} {S : Store} : oSl (rowW r) (some ((k : Nat) + 2)) none S = .ok (rowW (r.drop (k + 2))) S := by rw [rowW, o_slT, show ((k : Nat) : Int) + 2 = ((k + 2 : Nat) : Int) by omega, cutW_from, rowW, List.map_drop]
theorem add_row {a b : List Str} {S : Store} (h : a.length + b.length ≤ sizeLine) : oAdd (rowW a) (rowW b) S = .ok (rowW (a ++ b)) S := by rw [rowW, rowW, o_addT (by simpa using h), rowW, List.map_append]
theorem eq_nilL {l : List Nat} {S : Store} : oEq (.lst (l.map intW)) (.lst []) S = .ok (.bl l.isEmpty) S := by
  have : datL (l.map intW) = some (l.map fun k : Nat => PyData.int (k : Nat)) := by
    induction l with
    | nil => rfl
    | cons k l ih => rw [List.map_cons, datL, ih]; rfl
  unfold oEq eqS datS
  simp only [dat, datL, this, Option.map_some]
  have e : (PyData.list ([] : List PyData)).depth = 1 := by rw [PyData.depth, PyData.depthAll]
  rw [if_pos (by rw [e]; omega)]
  simp only
  congr 2
  rw [PyData.eqv]
  cases l <;> simp [PyData.eqvAll]
theorem lends_eq {rs : List Rule} {z : Str} {S : Store} (h1 : rs.length ≤ 1000) (h0 : RowOk (signsS z)) :
    ∃ l, Full (succR rs) (signsS z) l ∧ m__law_ends [.tup (rs.map ruleW), .str z] S = .ok (.tup ((srt (lexL ltS) (l.filter (isEnd rs))).map rowW)) S := by
  have : OkE (m__law_ends [.tup (rs.map ruleW), .str z] S) fun w S' => (∃ l, Full (succR rs) (signsS z) l ∧ w = .tup ((srt (lexL ltS) (l.filter (isEnd rs))).map rowW)) ∧ S' = S := by
    unfold m__law_ends fnRes b__law_ends
    refine OkE.leave ?_
    simp -implicitDefEqProofs only [OkS.ret, OkS.seq, OkS.asg, OkS.exp, OkS.ite, OkS.skip, OkS.brk, OkS.cnt, OkS.for, OkS.while, OkE.bnd, OkE.toS, OkE.ok, OkE.nox, OkE.comp, OkS.nxt, OkS.rtn, mIf, mTest, mBin, mVar, mC, mCall, mCons, mNil, mStar, mSl, mPart, mNoPart, mMeth, mMeth0, mTup, mLst, mLstR, mNeg, mNot, mAnd, mOr, mAndV, mOrV, mNotV, mYes, mRng1, mWk, mEnum, mEnumZip, mZip, mFn, mPar, mPar3, mAug, mIsi, mExpr, gSet, gTupW, gConsW, gNilW, gPut, seqT, startW, wipeW, cName, cTup, cCons, cNil, oIntX, oInt, oAbs, oMin2, oGt, oGe, oLt, oLe, oMod, oFdiv, oSub, oIAdd, Res.bind_ok, Res.toS_ok, noX_okk, List.map_cons, List.map_nil, List.cons_append, List.nil_append, List.append_nil, List.getElem?_cons_zero, List.getElem?_cons_succ, List.set_cons_zero, List.set_cons_succ, List.length_cons, List.length_nil, List.replicate, Nat.reduceAdd, Nat.reduceSub, Nat.add_eq, Nat.add_zero, Nat.sub_self, if_true, if_false, Bool.false_eq_true, reduceIte, Option.getD_some, o_addI, o_slT, o_slS, o_slL, o_lenS, o_lenT, o_lenL, o_lenSc, o_tupS, o_tupL, o_tupT, o_ixT0, o_ixT1, o_ixT2, o_ixL0, o_ixL1, ty_str, sizeLine_eq, Nat.reduceLeDiff, Nat.zero_le, Nat.reduceLT, Int.reduceLT, Int.reduceLE, Int.reduceNeg, and_self, and_true, true_and, Int.reduceToNat, mDictT, List.append_assoc]
    have g1 : ∀ a b c : Ob, (S ++ [a, b, c])[S.length]? = some a := fun a b c => st_get0
    have g2 : ∀ a b c : Ob, (S ++ [a, b, c])[S.length + 1]? = some b := fun a b c => st_get 1
    have g3 : ∀ a b c : Ob, (S ++ [a, b, c])[S.length + 2]? = some c := fun a b c => st_get 2
    have s1 : ∀ a b c d : Ob, (S ++ [a, b, c]).set S.length d = S ++ [d, b, c] := fun a b c d => st_set0
    have s2 : ∀ a b c d : Ob, (S ++ [a, b, c]).set (S.length + 1) d = S ++ [a, d, c] := fun a b c d => st_set 1
    have s3 : ∀ a b c d : Ob, (S ++ [a, b, c]).set (S.length + 2) d = S ++ [a, b, d] := fun a b c d => st_set 2
    refine while_ok (fun n τ S' => ∃ seen waiting x5 x6, τ = [some (.tup (rs.map ruleW)), some (.str z), some (.ref S.length), some (.ref (S.length + 1)), some (.ref (S.length + 2)), x5, x6, none] ∧ S' = S ++ [.lst (waiting.map rowW), .dT (knownW seen), .lst ((seen.filter (isEnd rs)).map rowW)] ∧ SB wtR 13700 (succR rs) (signsS z) seen waiting ∧ (waiting.map wtR).sum ≤ n) ?_ 1000000 (wtR (signsS z)) _ _ (by have := wt_le h0.len; omega) ?_
    · rintro n τ S' ⟨seen, waiting, x5, x6, rfl, rfl, I, hn⟩
      have eW : ∀ b c, oNe (.ref S.length) (.lst []) (S ++ [.lst (waiting.map rowW), b, c]) = .ok (.bl (!decide (waiting = []))) (S ++ [.lst (waiting.map rowW), b, c]) := fun b c => by
        unfold oNe
        rw [show eqS (S ++ [.lst (waiting.map rowW), b, c]) (.ref S.length) (.lst []) = some (decide (waiting = [])) from eqS_ref (embT embS) (by decide) waiting [] (g1 _ _ _)]
      rcases List.eq_nil_or_concat waiting with hw | ⟨ws, r, hw⟩
      · subst hw
        have hf := I.fin
        have hns := ends_ne hf
        have eW' := eW
        simp -implicitDefEqProofs only [OkS.ret, OkS.seq, OkS.asg, OkS.exp, OkS.ite, OkS.skip, OkS.brk, OkS.cnt, OkS.for, OkS.while, OkE.bnd, OkE.toS, OkE.ok, OkE.nox, OkE.comp, OkS.nxt, OkS.rtn, mIf, mTest, mBin, mVar, mC, mCall, mCons, mNil, mStar, mSl, mPart, mNoPart, mMeth, mMeth0, mTup, mLst, mLstR, mNeg, mNot, mAnd, mOr, mAndV, mOrV, mNotV, mYes, mRng1, mWk, mEnum, mEnumZip, mZip, mFn, mPar, mPar3, mAug, mIsi, mExpr, gSet, gTupW, gConsW, gNilW, gPut, seqT, startW, wipeW, cName, cTup, cCons, cNil, oIntX, oInt, oAbs, oMin2, oGt, oGe, oLt, oLe, oMod, oFdiv, oSub, oIAdd, Res.bind_ok, Res.toS_ok, noX_okk, List.map_cons, List.map_nil, List.cons_append, List.nil_append, List.append_nil, List.getElem?_cons_zero, List.getElem?_cons_succ, List.set_cons_zero, List.set_cons_succ, List.length_cons, List.length_nil, List.replicate, Nat.reduceAdd, Nat.reduceSub, Nat.add_eq, Nat.add_zero, Nat.sub_self, if_true, if_false, Bool.false_eq_true, reduceIte, Option.getD_some, o_addI, o_slT, o_slS, o_slL, o_lenS, o_lenT, o_lenL, o_lenSc, o_tupS, o_tupL, o_tupT, o_ixT0, o_ixT1, o_ixT2, o_ixL0, o_ixL1, ty_str, sizeLine_eq, Nat.reduceLeDiff, Nat.zero_le, Nat.reduceLT, Int.reduceLT, Int.reduceLE, Int.reduceNeg, and_self, and_true, true_and, Int.reduceToNat] at eW'
        simp -implicitDefEqProofs only [OkS.ret, OkS.seq, OkS.asg, OkS.exp, OkS.ite, OkS.skip, OkS.brk, OkS.cnt, OkS.for, OkS.while, OkE.bnd, OkE.toS, OkE.ok, OkE.nox, OkE.comp, OkS.nxt, OkS.rtn, mIf, mTest, mBin, mVar, mC, mCall, mCons, mNil, mStar, mSl, mPart, mNoPart, mMeth, mMeth0, mTup, mLst, mLstR, mNeg, mNot, mAnd, mOr, mAndV, mOrV, mNotV, mYes, mRng1, mWk, mEnum, mEnumZip, mZip, mFn, mPar, mPar3, mAug, mIsi, mExpr, gSet, gTupW, gConsW, gNilW, gPut, seqT, startW, wipeW, cName, cTup, cCons, cNil, oIntX, oInt, oAbs, oMin2, oGt, oGe, oLt, oLe, oMod, oFdiv, oSub, oIAdd, Res.bind_ok, Res.toS_ok, noX_okk, List.map_cons, List.map_nil, List.cons_append, List.nil_append, List.append_nil, List.getElem?_cons_zero, List.getElem?_cons_succ, List.set_cons_zero, List.set_cons_succ, List.length_cons, List.length_nil, List.replicate, Nat.reduceAdd, Nat.reduceSub, Nat.add_eq, Nat.add_zero, Nat.sub_self, if_true, if_false, Bool.false_eq_true, reduceIte, Option.getD_some, o_addI, o_slT, o_slS, o_slL, o_lenS, o_lenT, o_lenL, o_lenSc, o_tupS, o_tupL, o_tupT, o_ixT0, o_ixT1, o_ixT2, o_ixL0, o_ixL1, ty_str, sizeLine_eq, Nat.reduceLeDiff, Nat.zero_le, Nat.reduceLT, Int.reduceLT, Int.reduceLE, Int.reduceNeg, and_self, and_true, true_and, Int.reduceToNat, eW', decide_true, Bool.not_true, o_sortRR (g3 _ _ _) hns]
        exact ⟨rows_data _, CutOk.append, ⟨seen, hf, rfl⟩, st_take⟩
      · rw [List.concat_eq_append] at hw
        subst hw
        have hR : Reach (succR rs) (signsS z) r := I.reach r (.inr (by simp))
        have hO := h0.reach hR
        have hl := hO.len
        have hb := I.bound
        have hwl := len_le_sum (l := ws ++ [r]) wt_pos
        have hfl := List.length_filter_le (isEnd rs) seen
        have hwp := wt_pos r
        rw [List.length_append, List.length_cons, List.length_nil] at hwl
        have epop : ∀ b c, oPop (.ref S.length) [] (S ++ [.lst ((ws ++ [r]).map rowW), b, c]) = .ok (rowW r) (S ++ [.lst (ws.map rowW), b, c]) := fun b c => by
          rw [o_pop (xs := ws.map rowW) (x := rowW r) (by rw [g1, List.map_append]; rfl), s1]
        have hne : ¬ (ws ++ [r] = []) := by simp
        simp -implicitDefEqProofs only [OkS.ret, OkS.seq, OkS.asg, OkS.exp, OkS.ite, OkS.skip, OkS.brk, OkS.cnt, OkS.for, OkS.while, OkE.bnd, OkE.toS, OkE.ok, OkE.nox, OkE.comp, OkS.nxt, OkS.rtn, mIf, mTest, mBin, mVar, mC, mCall, mCons, mNil, mStar, mSl, mPart, mNoPart, mMeth, mMeth0, mTup, mLst, mLstR, mNeg, mNot, mAnd, mOr, mAndV, mOrV, mNotV, mYes, mRng1, mWk, mEnum, mEnumZip, mZip, mFn, mPar, mPar3, mAug, mIsi, mExpr, gSet, gTupW, gConsW, gNilW, gPut, seqT, startW, wipeW, cName, cTup, cCons, cNil, oIntX, oInt, oAbs, oMin2, oGt, oGe, oLt, oLe, oMod, oFdiv, oSub, oIAdd, Res.bind_ok, Res.toS_ok, noX_okk, List.map_cons, List.map_nil, List.cons_append, List.nil_append, List.append_nil, List.getElem?_cons_zero, List.getElem?_cons_succ, List.set_cons_zero, List.set_cons_succ, List.length_cons, List.length_nil, List.replicate, Nat.reduceAdd, Nat.reduceSub, Nat.add_eq, Nat.add_zero, Nat.sub_self, if_true, if_false, Bool.false_eq_true, reduceIte, Option.getD_some, o_addI, o_slT, o_slS, o_slL, o_lenS, o_lenT, o_lenL, o_lenSc, o_tupS, o_tupL, o_tupT, o_ixT0, o_ixT1, o_ixT2, o_ixL0, o_ixL1, ty_str, sizeLine_eq, Nat.reduceLeDiff, Nat.zero_le, Nat.reduceLT, Int.reduceLT, Int.reduceLE, Int.reduceNeg, and_self, and_true, true_and, Int.reduceToNat, eW, hne, decide_false, Bool.not_false, ty_ref (g1 _ _ _), epop, in_known (g2 _ _ _)]
        refine ⟨n - 1, ?_, ?_⟩
        · simp only [List.map_append, List.sum_append, List.map_cons, List.map_nil, List.sum_cons, List.sum_nil] at hn
          omega
        by_cases hi : r ∈ seen
        · simp only [hi, decide_true, Bool.not_true, Bool.false_eq_true, if_false]
          refine ⟨seen, ws, _, _, rfl, rfl, I.old hi, ?_⟩
          simp only [List.map_append, List.sum_append, List.map_cons, List.map_nil, List.sum_cons, List.sum_nil] at hn
          omega
        · simp -implicitDefEqProofs only [OkS.ret, OkS.seq, OkS.asg, OkS.exp, OkS.ite, OkS.skip, OkS.brk, OkS.cnt, OkS.for, OkS.while, OkE.bnd, OkE.toS, OkE.ok, OkE.nox, OkE.comp, OkS.nxt, OkS.rtn, mIf, mTest, mBin, mVar, mC, mCall, mCons, mNil, mStar, mSl, mPart, mNoPart, mMeth, mMeth0, mTup, mLst, mLstR, mNeg, mNot, mAnd, mOr, mAndV, mOrV, mNotV, mYes, mRng1, mWk, mEnum, mEnumZip, mZip, mFn, mPar, mPar3, mAug, mIsi, mExpr, gSet, gTupW, gConsW, gNilW, gPut, seqT, startW, wipeW, cName, cTup, cCons, cNil, oIntX, oInt, oAbs, oMin2, oGt, oGe, oLt, oLe, oMod, oFdiv, oSub, oIAdd, Res.bind_ok, Res.toS_ok, noX_okk, List.map_cons, List.map_nil, List.cons_append, List.nil_append, List.append_nil, List.getElem?_cons_zero, List.getElem?_cons_succ, List.set_cons_zero, List.set_cons_succ, List.length_cons, List.length_nil, List.replicate, Nat.reduceAdd, Nat.reduceSub, Nat.add_eq, Nat.add_zero, Nat.sub_self, if_true, if_false, Bool.false_eq_true, reduceIte, Option.getD_some, o_addI, o_slT, o_slS, o_slL, o_lenS, o_lenT, o_lenL, o_lenSc, o_tupS, o_tupL, o_tupT, o_ixT0, o_ixT1, o_ixT2, o_ixL0, o_ixL1, ty_str, sizeLine_eq, Nat.reduceLeDiff, Nat.zero_le, Nat.reduceLT, Int.reduceLT, Int.reduceLE, Int.reduceNeg, and_self, and_true, true_and, Int.reduceToNat, hi, decide_false, Bool.not_false, put_known (g2 _ _ _) (show seen.length < 1000000 by omega) hi, s2, len_row, oSub]
          rw [if_pos (by omega), OkE.ok, show ((r.length : Int) - 1).toNat = r.length - 1 by omega, rangeW_map]
          refine comp_pure (fits rs r) intW (by rw [List.length_range, sizeLine_eq]; omega) (fun k hk => ?_) ?_
          · have hk : k + 1 < r.length := by
              have := List.mem_range.mp hk
              omega
            refine ⟨[some (W.tup (rs.map ruleW)), some (W.str z), some (W.ref S.length), some (W.ref (S.length + 1)), some (W.ref (S.length + 2)), some (rowW r), x6, some (.int (k : Nat))], by simp -implicitDefEqProofs only [OkS.ret, OkS.seq, OkS.asg, OkS.exp, OkS.ite, OkS.skip, OkS.brk, OkS.cnt, OkS.for, OkS.while, OkE.bnd, OkE.toS, OkE.ok, OkE.nox, OkE.comp, OkS.nxt, OkS.rtn, mIf, mTest, mBin, mVar, mC, mCall, mCons, mNil, mStar, mSl, mPart, mNoPart, mMeth, mMeth0, mTup, mLst, mLstR, mNeg, mNot, mAnd, mOr, mAndV, mOrV, mNotV, mYes, mRng1, mWk, mEnum, mEnumZip, mZip, mFn, mPar, mPar3, mAug, mIsi, mExpr, gSet, gTupW, gConsW, gNilW, gPut, seqT, startW, wipeW, cName, cTup, cCons, cNil, oIntX, oInt, oAbs, oMin2, oGt, oGe, oLt, oLe, oMod, oFdiv, oSub, oIAdd, Res.bind_ok, Res.toS_ok, noX_okk, List.map_cons, List.map_nil, List.cons_append, List.nil_append, List.append_nil, List.getElem?_cons_zero, List.getElem?_cons_succ, List.set_cons_zero, List.set_cons_succ, List.length_cons, List.length_nil, List.replicate, Nat.reduceAdd, Nat.reduceSub, Nat.add_eq, Nat.add_zero, Nat.sub_self, if_true, if_false, Bool.false_eq_true, reduceIte, Option.getD_some, o_addI, o_slT, o_slS, o_slL, o_lenS, o_lenT, o_lenL, o_lenSc, o_tupS, o_tupL, o_tupT, o_ixT0, o_ixT1, o_ixT2, o_ixL0, o_ixL1, ty_str, sizeLine_eq, Nat.reduceLeDiff, Nat.zero_le, Nat.reduceLT, Int.reduceLT, Int.reduceLE, Int.reduceNeg, and_self, and_true, true_and, Int.reduceToNat], ?_, fun _ => by simp -implicitDefEqProofs only [OkS.ret, OkS.seq, OkS.asg, OkS.exp, OkS.ite, OkS.skip, OkS.brk, OkS.cnt, OkS.for, OkS.while, OkE.bnd, OkE.toS, OkE.ok, OkE.nox, OkE.comp, OkS.nxt, OkS.rtn, mIf, mTest, mBin, mVar, mC, mCall, mCons, mNil, mStar, mSl, mPart, mNoPart, mMeth, mMeth0, mTup, mLst, mLstR, mNeg, mNot, mAnd, mOr, mAndV, mOrV, mNotV, mYes, mRng1, mWk, mEnum, mEnumZip, mZip, mFn, mPar, mPar3, mAug, mIsi, mExpr, gSet, gTupW, gConsW, gNilW, gPut, seqT, startW, wipeW, cName, cTup, cCons, cNil, oIntX, oInt, oAbs, oMin2, oGt, oGe, oLt, oLe, oMod, oFdiv, oSub, oIAdd, Res.bind_ok, Res.toS_ok, noX_okk, List.map_cons, List.map_nil, List.cons_append, List.nil_append, List.append_nil, List.getElem?_cons_zero, List.getElem?_cons_succ, List.set_cons_zero, List.set_cons_succ, List.length_cons, List.length_nil, List.replicate, Nat.reduceAdd, Nat.reduceSub, Nat.add_eq, Nat.add_zero, Nat.sub_self, if_true, if_false, Bool.false_eq_true, reduceIte, Option.getD_some, o_addI, o_slT, o_slS, o_slL, o_lenS, o_lenT, o_lenL, o_lenSc, o_tupS, o_tupL, o_tupT, o_ixT0, o_ixT1, o_ixT2, o_ixL0, o_ixL1, ty_str, sizeLine_eq, Nat.reduceLeDiff, Nat.zero_le, Nat.reduceLT, Int.reduceLT, Int.reduceLE, Int.reduceNeg, and_self, and_true, true_and, Int.reduceToNat]; rfl⟩
            simp -implicitDefEqProofs only [OkS.ret, OkS.seq, OkS.asg, OkS.exp, OkS.ite, OkS.skip, OkS.brk, OkS.cnt, OkS.for, OkS.while, OkE.bnd, OkE.toS, OkE.ok, OkE.nox, OkE.comp, OkS.nxt, OkS.rtn, mIf, mTest, mBin, mVar, mC, mCall, mCons, mNil, mStar, mSl, mPart, mNoPart, mMeth, mMeth0, mTup, mLst, mLstR, mNeg, mNot, mAnd, mOr, mAndV, mOrV, mNotV, mYes, mRng1, mWk, mEnum, mEnumZip, mZip, mFn, mPar, mPar3, mAug, mIsi, mExpr, gSet, gTupW, gConsW, gNilW, gPut, seqT, startW, wipeW, cName, cTup, cCons, cNil, oIntX, oInt, oAbs, oMin2, oGt, oGe, oLt, oLe, oMod, oFdiv, oSub, oIAdd, Res.bind_ok, Res.toS_ok, noX_okk, List.map_cons, List.map_nil, List.cons_append, List.nil_append, List.append_nil, List.getElem?_cons_zero, List.getElem?_cons_succ, List.set_cons_zero, List.set_cons_succ, List.length_cons, List.length_nil, List.replicate, Nat.reduceAdd, Nat.reduceSub, Nat.add_eq, Nat.add_zero, Nat.sub_self, if_true, if_false, Bool.false_eq_true, reduceIte, Option.getD_some, o_addI, o_slT, o_slS, o_slL, o_lenS, o_lenT, o_lenL, o_lenSc, o_tupS, o_tupL, o_tupT, o_ixT0, o_ixT1, o_ixT2, o_ixL0, o_ixL1, ty_str, sizeLine_eq, Nat.reduceLeDiff, Nat.zero_le, Nat.reduceLT, Int.reduceLT, Int.reduceLE, Int.reduceNeg, and_self, and_true, true_and, Int.reduceToNat, ix_row (show k < r.length by omega), ix_row1 hk]
            rw [show W.tup [W.str (r.getD k default), W.str (r.getD (k + 1) default)] = ruleW (r.getD k default, r.getD (k + 1) default) from rfl, in_rules]
            simp -implicitDefEqProofs only [OkS.ret, OkS.seq, OkS.asg, OkS.exp, OkS.ite, OkS.skip, OkS.brk, OkS.cnt, OkS.for, OkS.while, OkE.bnd, OkE.toS, OkE.ok, OkE.nox, OkE.comp, OkS.nxt, OkS.rtn, mIf, mTest, mBin, mVar, mC, mCall, mCons, mNil, mStar, mSl, mPart, mNoPart, mMeth, mMeth0, mTup, mLst, mLstR, mNeg, mNot, mAnd, mOr, mAndV, mOrV, mNotV, mYes, mRng1, mWk, mEnum, mEnumZip, mZip, mFn, mPar, mPar3, mAug, mIsi, mExpr, gSet, gTupW, gConsW, gNilW, gPut, seqT, startW, wipeW, cName, cTup, cCons, cNil, oIntX, oInt, oAbs, oMin2, oGt, oGe, oLt, oLe, oMod, oFdiv, oSub, oIAdd, Res.bind_ok, Res.toS_ok, noX_okk, List.map_cons, List.map_nil, List.cons_append, List.nil_append, List.append_nil, List.getElem?_cons_zero, List.getElem?_cons_succ, List.set_cons_zero, List.set_cons_succ, List.length_cons, List.length_nil, List.replicate, Nat.reduceAdd, Nat.reduceSub, Nat.add_eq, Nat.add_zero, Nat.sub_self, if_true, if_false, Bool.false_eq_true, reduceIte, Option.getD_some, o_addI, o_slT, o_slS, o_slL, o_lenS, o_lenT, o_lenL, o_lenSc, o_tupS, o_tupL, o_tupT, o_ixT0, o_ixT1, o_ixT2, o_ixL0, o_ixL1, ty_str, sizeLine_eq, Nat.reduceLeDiff, Nat.zero_le, Nat.reduceLT, Int.reduceLT, Int.reduceLE, Int.reduceNeg, and_self, and_true, true_and, Int.reduceToNat]
            rfl
          · simp -implicitDefEqProofs only [OkS.ret, OkS.seq, OkS.asg, OkS.exp, OkS.ite, OkS.skip, OkS.brk, OkS.cnt, OkS.for, OkS.while, OkE.bnd, OkE.toS, OkE.ok, OkE.nox, OkE.comp, OkS.nxt, OkS.rtn, mIf, mTest, mBin, mVar, mC, mCall, mCons, mNil, mStar, mSl, mPart, mNoPart, mMeth, mMeth0, mTup, mLst, mLstR, mNeg, mNot, mAnd, mOr, mAndV, mOrV, mNotV, mYes, mRng1, mWk, mEnum, mEnumZip, mZip, mFn, mPar, mPar3, mAug, mIsi, mExpr, gSet, gTupW, gConsW, gNilW, gPut, seqT, startW, wipeW, cName, cTup, cCons, cNil, oIntX, oInt, oAbs, oMin2, oGt, oGe, oLt, oLe, oMod, oFdiv, oSub, oIAdd, Res.bind_ok, Res.toS_ok, noX_okk, List.map_cons, List.map_nil, List.cons_append, List.nil_append, List.append_nil, List.getElem?_cons_zero, List.getElem?_cons_succ, List.set_cons_zero, List.set_cons_succ, List.length_cons, List.length_nil, List.replicate, Nat.reduceAdd, Nat.reduceSub, Nat.add_eq, Nat.add_zero, Nat.sub_self, if_true, if_false, Bool.false_eq_true, reduceIte, Option.getD_some, o_addI, o_slT, o_slS, o_slL, o_lenS, o_lenT, o_lenL, o_lenSc, o_tupS, o_tupL, o_tupT, o_ixT0, o_ixT1, o_ixT2, o_ixL0, o_ixL1, ty_str, sizeLine_eq, Nat.reduceLeDiff, Nat.zero_le, Nat.reduceLT, Int.reduceLT, Int.reduceLE, Int.reduceNeg, and_self, and_true, true_and, Int.reduceToNat, ty_ref (g1 _ _ _)]
            rw [show (List.range (r.length - 1)).filter (fits rs r) = places rs r from rfl]
            have hpl : (places rs r).length ≤ 8 := by
              have := List.length_filter_le (fits rs r) (List.range (r.length - 1))
              rw [List.length_range] at this
              unfold places
              omega
            refine comp_pure (fun _ => true) (fun k => rowW (joinAt r k)) (by rw [sizeLine_eq]; omega) (fun k hk => ?_) ?_
            · have hk := places_mem hk
              have h0k : k < r.length := by omega
              have hsum := hO.sum
              have l1 := rlen_get h0k
              have l2 := rlen_get hk
              refine ⟨[some (W.tup (rs.map ruleW)), some (W.str z), some (W.ref S.length), some (W.ref (S.length + 1)), some (W.ref (S.length + 2)), some (rowW r), some (.lst ((places rs r).map intW)), some (.int (k : Nat))], by simp -implicitDefEqProofs only [OkS.ret, OkS.seq, OkS.asg, OkS.exp, OkS.ite, OkS.skip, OkS.brk, OkS.cnt, OkS.for, OkS.while, OkE.bnd, OkE.toS, OkE.ok, OkE.nox, OkE.comp, OkS.nxt, OkS.rtn, mIf, mTest, mBin, mVar, mC, mCall, mCons, mNil, mStar, mSl, mPart, mNoPart, mMeth, mMeth0, mTup, mLst, mLstR, mNeg, mNot, mAnd, mOr, mAndV, mOrV, mNotV, mYes, mRng1, mWk, mEnum, mEnumZip, mZip, mFn, mPar, mPar3, mAug, mIsi, mExpr, gSet, gTupW, gConsW, gNilW, gPut, seqT, startW, wipeW, cName, cTup, cCons, cNil, oIntX, oInt, oAbs, oMin2, oGt, oGe, oLt, oLe, oMod, oFdiv, oSub, oIAdd, Res.bind_ok, Res.toS_ok, noX_okk, List.map_cons, List.map_nil, List.cons_append, List.nil_append, List.append_nil, List.getElem?_cons_zero, List.getElem?_cons_succ, List.set_cons_zero, List.set_cons_succ, List.length_cons, List.length_nil, List.replicate, Nat.reduceAdd, Nat.reduceSub, Nat.add_eq, Nat.add_zero, Nat.sub_self, if_true, if_false, Bool.false_eq_true, reduceIte, Option.getD_some, o_addI, o_slT, o_slS, o_slL, o_lenS, o_lenT, o_lenL, o_lenSc, o_tupS, o_tupL, o_tupT, o_ixT0, o_ixT1, o_ixT2, o_ixL0, o_ixL1, ty_str, sizeLine_eq, Nat.reduceLeDiff, Nat.zero_le, Nat.reduceLT, Int.reduceLT, Int.reduceLE, Int.reduceNeg, and_self, and_true, true_and, Int.reduceToNat, intW], rfl, fun _ => ?_⟩
              simp -implicitDefEqProofs only [OkS.ret, OkS.seq, OkS.asg, OkS.exp, OkS.ite, OkS.skip, OkS.brk, OkS.cnt, OkS.for, OkS.while, OkE.bnd, OkE.toS, OkE.ok, OkE.nox, OkE.comp, OkS.nxt, OkS.rtn, mIf, mTest, mBin, mVar, mC, mCall, mCons, mNil, mStar, mSl, mPart, mNoPart, mMeth, mMeth0, mTup, mLst, mLstR, mNeg, mNot, mAnd, mOr, mAndV, mOrV, mNotV, mYes, mRng1, mWk, mEnum, mEnumZip, mZip, mFn, mPar, mPar3, mAug, mIsi, mExpr, gSet, gTupW, gConsW, gNilW, gPut, seqT, startW, wipeW, cName, cTup, cCons, cNil, oIntX, oInt, oAbs, oMin2, oGt, oGe, oLt, oLe, oMod, oFdiv, oSub, oIAdd, Res.bind_ok, Res.toS_ok, noX_okk, List.map_cons, List.map_nil, List.cons_append, List.nil_append, List.append_nil, List.getElem?_cons_zero, List.getElem?_cons_succ, List.set_cons_zero, List.set_cons_succ, List.length_cons, List.length_nil, List.replicate, Nat.reduceAdd, Nat.reduceSub, Nat.add_eq, Nat.add_zero, Nat.sub_self, if_true, if_false, Bool.false_eq_true, reduceIte, Option.getD_some, o_addI, o_slT, o_slS, o_slL, o_lenS, o_lenT, o_lenL, o_lenSc, o_tupS, o_tupL, o_tupT, o_ixT0, o_ixT1, o_ixT2, o_ixL0, o_ixL1, ty_str, sizeLine_eq, Nat.reduceLeDiff, Nat.zero_le, Nat.reduceLT, Int.reduceLT, Int.reduceLE, Int.reduceNeg, and_self, and_true, true_and, Int.reduceToNat, ix_row h0k, ix_row1 hk, sl_to, sl_from2]
              rw [o_addS (by rw [getD_at h0k, getD_at hk, sizeLine_eq]; omega)]
              simp -implicitDefEqProofs only [OkS.ret, OkS.seq, OkS.asg, OkS.exp, OkS.ite, OkS.skip, OkS.brk, OkS.cnt, OkS.for, OkS.while, OkE.bnd, OkE.toS, OkE.ok, OkE.nox, OkE.comp, OkS.nxt, OkS.rtn, mIf, mTest, mBin, mVar, mC, mCall, mCons, mNil, mStar, mSl, mPart, mNoPart, mMeth, mMeth0, mTup, mLst, mLstR, mNeg, mNot, mAnd, mOr, mAndV, mOrV, mNotV, mYes, mRng1, mWk, mEnum, mEnumZip, mZip, mFn, mPar, mPar3, mAug, mIsi, mExpr, gSet, gTupW, gConsW, gNilW, gPut, seqT, startW, wipeW, cName, cTup, cCons, cNil, oIntX, oInt, oAbs, oMin2, oGt, oGe, oLt, oLe, oMod, oFdiv, oSub, oIAdd, Res.bind_ok, Res.toS_ok, noX_okk, List.map_cons, List.map_nil, List.cons_append, List.nil_append, List.append_nil, List.getElem?_cons_zero, List.getElem?_cons_succ, List.set_cons_zero, List.set_cons_succ, List.length_cons, List.length_nil, List.replicate, Nat.reduceAdd, Nat.reduceSub, Nat.add_eq, Nat.add_zero, Nat.sub_self, if_true, if_false, Bool.false_eq_true, reduceIte, Option.getD_some, o_addI, o_slT, o_slS, o_slL, o_lenS, o_lenT, o_lenL, o_lenSc, o_tupS, o_tupL, o_tupT, o_ixT0, o_ixT1, o_ixT2, o_ixL0, o_ixL1, ty_str, sizeLine_eq, Nat.reduceLeDiff, Nat.zero_le, Nat.reduceLT, Int.reduceLT, Int.reduceLE, Int.reduceNeg, and_self, and_true, true_and, Int.reduceToNat]
              rw [show W.tup [W.str (r.getD k default ++ r.getD (k + 1) default)] = rowW [r.getD k default ++ r.getD (k + 1) default] from rfl, add_row (by rw [sizeLine_eq]; simp; omega)]
              simp -implicitDefEqProofs only [OkS.ret, OkS.seq, OkS.asg, OkS.exp, OkS.ite, OkS.skip, OkS.brk, OkS.cnt, OkS.for, OkS.while, OkE.bnd, OkE.toS, OkE.ok, OkE.nox, OkE.comp, OkS.nxt, OkS.rtn, mIf, mTest, mBin, mVar, mC, mCall, mCons, mNil, mStar, mSl, mPart, mNoPart, mMeth, mMeth0, mTup, mLst, mLstR, mNeg, mNot, mAnd, mOr, mAndV, mOrV, mNotV, mYes, mRng1, mWk, mEnum, mEnumZip, mZip, mFn, mPar, mPar3, mAug, mIsi, mExpr, gSet, gTupW, gConsW, gNilW, gPut, seqT, startW, wipeW, cName, cTup, cCons, cNil, oIntX, oInt, oAbs, oMin2, oGt, oGe, oLt, oLe, oMod, oFdiv, oSub, oIAdd, Res.bind_ok, Res.toS_ok, noX_okk, List.map_cons, List.map_nil, List.cons_append, List.nil_append, List.append_nil, List.getElem?_cons_zero, List.getElem?_cons_succ, List.set_cons_zero, List.set_cons_succ, List.length_cons, List.length_nil, List.replicate, Nat.reduceAdd, Nat.reduceSub, Nat.add_eq, Nat.add_zero, Nat.sub_self, if_true, if_false, Bool.false_eq_true, reduceIte, Option.getD_some, o_addI, o_slT, o_slS, o_slL, o_lenS, o_lenT, o_lenL, o_lenSc, o_tupS, o_tupL, o_tupT, o_ixT0, o_ixT1, o_ixT2, o_ixL0, o_ixL1, ty_str, sizeLine_eq, Nat.reduceLeDiff, Nat.zero_le, Nat.reduceLT, Int.reduceLT, Int.reduceLE, Int.reduceNeg, and_self, and_true, true_and, Int.reduceToNat]
              rw [add_row (by rw [sizeLine_eq]; simp; omega)]
              simp only [joinAt, List.append_assoc, List.cons_append, List.nil_append, noX_okk]
            · have hext : (places rs r).filter (fun _ => true) = places rs r := List.filter_eq_self.mpr fun _ _ => rfl
              rw [hext]
              rw [o_ext (g1 _ _ _) (by simp only [List.length_map, sizeLine_eq]; omega), OkE.ok, s1, eq_nilL]
              simp -implicitDefEqProofs only [OkS.ret, OkS.seq, OkS.asg, OkS.exp, OkS.ite, OkS.skip, OkS.brk, OkS.cnt, OkS.for, OkS.while, OkE.bnd, OkE.toS, OkE.ok, OkE.nox, OkE.comp, OkS.nxt, OkS.rtn, mIf, mTest, mBin, mVar, mC, mCall, mCons, mNil, mStar, mSl, mPart, mNoPart, mMeth, mMeth0, mTup, mLst, mLstR, mNeg, mNot, mAnd, mOr, mAndV, mOrV, mNotV, mYes, mRng1, mWk, mEnum, mEnumZip, mZip, mFn, mPar, mPar3, mAug, mIsi, mExpr, gSet, gTupW, gConsW, gNilW, gPut, seqT, startW, wipeW, cName, cTup, cCons, cNil, oIntX, oInt, oAbs, oMin2, oGt, oGe, oLt, oLe, oMod, oFdiv, oSub, oIAdd, Res.bind_ok, Res.toS_ok, noX_okk, List.map_cons, List.map_nil, List.cons_append, List.nil_append, List.append_nil, List.getElem?_cons_zero, List.getElem?_cons_succ, List.set_cons_zero, List.set_cons_succ, List.length_cons, List.length_nil, List.replicate, Nat.reduceAdd, Nat.reduceSub, Nat.add_eq, Nat.add_zero, Nat.sub_self, if_true, if_false, Bool.false_eq_true, reduceIte, Option.getD_some, o_addI, o_slT, o_slS, o_slL, o_lenS, o_lenT, o_lenL, o_lenSc, o_tupS, o_tupL, o_tupT, o_ixT0, o_ixT1, o_ixT2, o_ixL0, o_ixL1, ty_str, sizeLine_eq, Nat.reduceLeDiff, Nat.zero_le, Nat.reduceLT, Int.reduceLT, Int.reduceLE, Int.reduceNeg, and_self, and_true, true_and, Int.reduceToNat]
              have hnew := I.new hi (wt_fall rs r)
              have hsum : (List.map wtR (ws ++ succR rs r)).sum ≤ n - 1 := by
                have h2 := wt_fall rs r
                simp only [List.map_append, List.sum_append, List.map_cons, List.map_nil, List.sum_cons, List.sum_nil] at hn ⊢
                omega
              have hmap : List.map rowW ws ++ List.map (fun k => rowW (joinAt r k)) (places rs r) = List.map rowW (ws ++ succR rs r) := by
                unfold succR
                rw [List.map_append, List.map_map]
                rfl
              rw [hmap]
              by_cases hE : isEnd rs r = true
              · rw [if_pos (show (places rs r).isEmpty = true from hE), if_pos (ty_ref (g3 _ _ _)), OkE.nox, o_app (g3 _ _ _) (by simp only [List.length_map, sizeLine_eq]; omega), OkE.ok, s3]
                refine ⟨seen ++ [r], ws ++ succR rs r, _, _, rfl, ?_, hnew, hsum⟩
                rw [List.filter_append, List.filter_cons, if_pos hE, List.map_append (l₁ := seen.filter (isEnd rs))]
                rfl
              · rw [if_neg (show ¬ (places rs r).isEmpty = true from hE)]
                refine ⟨seen ++ [r], ws ++ succR rs r, _, _, rfl, ?_, hnew, hsum⟩
                rw [List.filter_append, List.filter_cons, if_neg hE]
                simp
    · refine ⟨[], [signsS z], none, none, ?_, rfl, ⟨by simp, by simp, fun r hr => ?_, fun r hr => (by cases hr), ?_⟩, by simp⟩
      · simp only [List.length_append, List.length_cons, List.length_nil]
      · have : r = signsS z := by simpa using hr
        subst this
        exact .refl
      · have := wt_le h0.len
        simp
        exact this
  obtain ⟨w, S', e, ⟨l, hl, rfl⟩, rfl⟩ := this.ex
  exact ⟨l, hl, e⟩
end Gen
namespace Gen
open PySem PySem.Spec PyProof.Rows L2 Eng
structure Good (s : Str) : Prop where
  ok : okS s = true
  len : s.length ≤ 8
def stepM (acc : List Str) (p : Rule) : List Str := if p.1 ∈ acc ∧ p.2 ∈ acc ∧ p.1 ++ p.2 ∉ acc then acc ++ [p.1 ++ p.2] else acc
def passM (rs : List Rule) (acc : List Str) : List Str := rs.foldl stepM acc
def madeL (rs : List Rule) (ls : List Str) (n : Nat) : List Str := (List.range n).foldl (fun acc _ => passM rs acc) ls
def foundW (l : List Str) : List (Key × W) := l.map fun x => (Sum.inr x, .bl true)
theorem stepM_len (acc : List Str) (p : Rule) : (stepM acc p).length ≤ acc.length + 1 := by
  unfold stepM
  split <;> simp
theorem foldM_len (acc : List Str) : ∀ rs : List Rule, (rs.foldl stepM acc).length ≤ acc.length + rs.length := by
  intro rs
  induction rs generalizing acc with
  | nil => simp
  | cons p rs ih =>
    have h1 := stepM_len acc p
    have h2 := ih (stepM acc p)
    simp only [List.foldl_cons, List.length_cons]
    omega
theorem foldN_len (rs : List Rule) (ls : List Str) : ∀ l : List Nat, (l.foldl (fun acc _ => passM rs acc) ls).length ≤ ls.length + l.length * rs.length := by
  intro l
  induction l generalizing ls with
  | nil => simp
  | cons k l ih =>
    have h1 := foldM_len ls rs
    have h2 := ih (passM rs ls)
    simp only [List.foldl_cons, List.length_cons, Nat.succ_mul]
    unfold passM at h2 ⊢
    omega
def AllOk (l : List Str) : Prop := ∀ x ∈ l, okS x = true
def RulesOk (rs : List Rule) : Prop := ∀ p ∈ rs, Good p.1 ∧ Good p.2
theorem Good.app {a b : Str} (h1 : Good a) (h2 : Good b) : okS (a ++ b) = true := okS_append h1.ok h2.ok (by rw [sizeLine_eq]; have := h1.len; have := h2.len; omega)
theorem stepM_ok {acc : List Str} {p : Rule} (h : AllOk acc) (h1 : Good p.1 ∧ Good p.2) : AllOk (stepM acc p) := by
  unfold stepM
  split
  · intro x hx
    rcases List.mem_append.mp hx with z | z
    · exact h x z
    · have : x = p.1 ++ p.2 := by simpa using z
      rw [this]
      exact h1.1.app h1.2
  · exact h
theorem in_found {l : List Str} {x : Str} {S : Store} {n : Nat} (hS : S[n]? = some (.dK (foundW l))) : oIn (.str x) (.ref n) S = .ok (.bl (decide (x ∈ l))) S := by
  unfold oIn inS
  simp only [lookS]
  rw [hS]
  simp only [keyW, Option.map_some]
  unfold foundW
  rw [valW_const (k := fun x : Str => (Sum.inr x : Key)) keyS_inj]
  by_cases h : x ∈ l <;> simp [h]
theorem put_found {l : List Str} {x : Str} {S : Store} {n : Nat} (hS : S[n]? = some (.dK (foundW l))) (hl : l.length < 1000000) : putS (.ref n) (.str x) (.bl true) S = some (S.set n (.dK (foundW (if x ∈ l then l else l ++ [x])))) := by
  unfold putS
  simp only
  rw [hS]
  simp only [keyW]
  rw [if_pos (by unfold foundW; rw [List.length_map, sizeLine_eq]; omega)]
  unfold foundW
  by_cases h : x ∈ l
  · rw [putW_old (k := fun x : Str => (Sum.inr x : Key)) keyS_inj h, if_pos h]
  · rw [putW_new (k := fun x : Str => (Sum.inr x : Key)) keyS_inj h, if_neg h]
theorem str_data (l : List Str) : (W.tup (l.map W.str)).isData = true := (embT embS).data l
theorem makeable_eq {ls : List Str} {rs : List Rule} {m : Str} {S : Store} (h1 : rs.length ≤ 100) (h2 : ls.length ≤ 100) (hd : ls.Nodup) (ho : AllOk ls) (hr : RulesOk rs) :
    m_makeable [tabW ls rs m] S = .ok (.tup ((srt ltS (madeL rs ls rs.length)).map W.str)) S := by
  refine OkE.eqv ?_
  unfold m_makeable fnRes b_makeable
  refine OkE.leave ?_
  have g1 : ∀ a : Ob, (S ++ [a])[S.length]? = some a := fun a => st_get0
  have s1 : ∀ a d : Ob, (S ++ [a]).set S.length d = S ++ [d] := fun a d => st_set0
  simp -implicitDefEqProofs only [OkS.ret, OkS.seq, OkS.asg, OkS.exp, OkS.ite, OkS.skip, OkS.brk, OkS.cnt, OkS.for, OkS.while, OkE.bnd, OkE.toS, OkE.ok, OkE.nox, OkE.comp, OkS.nxt, OkS.rtn, mIf, mTest, mBin, mVar, mC, mCall, mCons, mNil, mStar, mSl, mPart, mNoPart, mMeth, mMeth0, mTup, mLst, mLstR, mNeg, mNot, mAnd, mOr, mAndV, mOrV, mNotV, mYes, mRng1, mWk, mEnum, mEnumZip, mZip, mFn, mPar, mPar3, mAug, mIsi, mExpr, gSet, gTupW, gConsW, gNilW, gPut, seqT, startW, wipeW, cName, cTup, cCons, cNil, oIntX, oInt, oAbs, oMin2, oGt, oGe, oLt, oLe, oMod, oFdiv, oSub, oIAdd, Res.bind_ok, Res.toS_ok, noX_okk, List.map_cons, List.map_nil, List.cons_append, List.nil_append, List.append_nil, List.getElem?_cons_zero, List.getElem?_cons_succ, List.set_cons_zero, List.set_cons_succ, List.length_cons, List.length_nil, List.replicate, Nat.reduceAdd, Nat.reduceSub, Nat.add_eq, Nat.add_zero, Nat.sub_self, if_true, if_false, Bool.false_eq_true, reduceIte, Option.getD_some, o_addI, o_slT, o_slS, o_slL, o_lenS, o_lenT, o_lenL, o_lenSc, o_tupS, o_tupL, o_tupT, o_ixT0, o_ixT1, o_ixT2, o_ixL0, o_ixL1, ty_str, sizeLine_eq, Nat.reduceLeDiff, Nat.zero_le, Nat.reduceLT, Int.reduceLT, Int.reduceLE, Int.reduceNeg, and_self, and_true, true_and, Int.reduceToNat, OkE.dcomp, tab_ix, tab_ix0]
  refine dcomp_mapI (fun pre o S' => S' = S ∧ o = .dK (foundW pre)) ⟨rfl, rfl⟩ ?_ ?_
  · rintro pre x post acc S' e ⟨rfl, rfl⟩
    refine ⟨[some (tabW ls rs m), none, some (.str x), none, none, none], by simp -implicitDefEqProofs only [OkS.ret, OkS.seq, OkS.asg, OkS.exp, OkS.ite, OkS.skip, OkS.brk, OkS.cnt, OkS.for, OkS.while, OkE.bnd, OkE.toS, OkE.ok, OkE.nox, OkE.comp, OkS.nxt, OkS.rtn, mIf, mTest, mBin, mVar, mC, mCall, mCons, mNil, mStar, mSl, mPart, mNoPart, mMeth, mMeth0, mTup, mLst, mLstR, mNeg, mNot, mAnd, mOr, mAndV, mOrV, mNotV, mYes, mRng1, mWk, mEnum, mEnumZip, mZip, mFn, mPar, mPar3, mAug, mIsi, mExpr, gSet, gTupW, gConsW, gNilW, gPut, seqT, startW, wipeW, cName, cTup, cCons, cNil, oIntX, oInt, oAbs, oMin2, oGt, oGe, oLt, oLe, oMod, oFdiv, oSub, oIAdd, Res.bind_ok, Res.toS_ok, noX_okk, List.map_cons, List.map_nil, List.cons_append, List.nil_append, List.append_nil, List.getElem?_cons_zero, List.getElem?_cons_succ, List.set_cons_zero, List.set_cons_succ, List.length_cons, List.length_nil, List.replicate, Nat.reduceAdd, Nat.reduceSub, Nat.add_eq, Nat.add_zero, Nat.sub_self, if_true, if_false, Bool.false_eq_true, reduceIte, Option.getD_some, o_addI, o_slT, o_slS, o_slL, o_lenS, o_lenT, o_lenL, o_lenSc, o_tupS, o_tupL, o_tupT, o_ixT0, o_ixT1, o_ixT2, o_ixL0, o_ixL1, ty_str, sizeLine_eq, Nat.reduceLeDiff, Nat.zero_le, Nat.reduceLT, Int.reduceLT, Int.reduceLE, Int.reduceNeg, and_self, and_true, true_and, Int.reduceToNat], ?_⟩
    have hx : x ∉ pre := by
      rw [e, List.nodup_append] at hd
      intro hx
      exact hd.2.2 x hx x (by simp) rfl
    have hl : pre.length < 100 := by
      have := congrArg List.length e
      simp at this
      omega
    simp -implicitDefEqProofs only [OkS.ret, OkS.seq, OkS.asg, OkS.exp, OkS.ite, OkS.skip, OkS.brk, OkS.cnt, OkS.for, OkS.while, OkE.bnd, OkE.toS, OkE.ok, OkE.nox, OkE.comp, OkS.nxt, OkS.rtn, mIf, mTest, mBin, mVar, mC, mCall, mCons, mNil, mStar, mSl, mPart, mNoPart, mMeth, mMeth0, mTup, mLst, mLstR, mNeg, mNot, mAnd, mOr, mAndV, mOrV, mNotV, mYes, mRng1, mWk, mEnum, mEnumZip, mZip, mFn, mPar, mPar3, mAug, mIsi, mExpr, gSet, gTupW, gConsW, gNilW, gPut, seqT, startW, wipeW, cName, cTup, cCons, cNil, oIntX, oInt, oAbs, oMin2, oGt, oGe, oLt, oLe, oMod, oFdiv, oSub, oIAdd, Res.bind_ok, Res.toS_ok, noX_okk, List.map_cons, List.map_nil, List.cons_append, List.nil_append, List.append_nil, List.getElem?_cons_zero, List.getElem?_cons_succ, List.set_cons_zero, List.set_cons_succ, List.length_cons, List.length_nil, List.replicate, Nat.reduceAdd, Nat.reduceSub, Nat.add_eq, Nat.add_zero, Nat.sub_self, if_true, if_false, Bool.false_eq_true, reduceIte, Option.getD_some, o_addI, o_slT, o_slS, o_slL, o_lenS, o_lenT, o_lenL, o_lenSc, o_tupS, o_tupL, o_tupT, o_ixT0, o_ixT1, o_ixT2, o_ixL0, o_ixL1, ty_str, sizeLine_eq, Nat.reduceLeDiff, Nat.zero_le, Nat.reduceLT, Int.reduceLT, Int.reduceLE, Int.reduceNeg, and_self, and_true, true_and, Int.reduceToNat]
    refine ⟨.dK (foundW (pre ++ [x])), ?_, rfl⟩
    unfold putOb
    simp only [keyW]
    rw [if_pos (by unfold foundW; rw [List.length_map, sizeLine_eq]; omega)]
    unfold foundW
    rw [putW_new (k := fun x : Str => (Sum.inr x : Key)) keyS_inj hx]
  · rintro acc S' ⟨rfl, rfl⟩
    simp -implicitDefEqProofs only [OkS.ret, OkS.seq, OkS.asg, OkS.exp, OkS.ite, OkS.skip, OkS.brk, OkS.cnt, OkS.for, OkS.while, OkE.bnd, OkE.toS, OkE.ok, OkE.nox, OkE.comp, OkS.nxt, OkS.rtn, mIf, mTest, mBin, mVar, mC, mCall, mCons, mNil, mStar, mSl, mPart, mNoPart, mMeth, mMeth0, mTup, mLst, mLstR, mNeg, mNot, mAnd, mOr, mAndV, mOrV, mNotV, mYes, mRng1, mWk, mEnum, mEnumZip, mZip, mFn, mPar, mPar3, mAug, mIsi, mExpr, gSet, gTupW, gConsW, gNilW, gPut, seqT, startW, wipeW, cName, cTup, cCons, cNil, oIntX, oInt, oAbs, oMin2, oGt, oGe, oLt, oLe, oMod, oFdiv, oSub, oIAdd, Res.bind_ok, Res.toS_ok, noX_okk, List.map_cons, List.map_nil, List.cons_append, List.nil_append, List.append_nil, List.getElem?_cons_zero, List.getElem?_cons_succ, List.set_cons_zero, List.set_cons_succ, List.length_cons, List.length_nil, List.replicate, Nat.reduceAdd, Nat.reduceSub, Nat.add_eq, Nat.add_zero, Nat.sub_self, if_true, if_false, Bool.false_eq_true, reduceIte, Option.getD_some, o_addI, o_slT, o_slS, o_slL, o_lenS, o_lenT, o_lenL, o_lenSc, o_tupS, o_tupL, o_tupT, o_ixT0, o_ixT1, o_ixT2, o_ixL0, o_ixL1, ty_str, sizeLine_eq, Nat.reduceLeDiff, Nat.zero_le, Nat.reduceLT, Int.reduceLT, Int.reduceLE, Int.reduceNeg, and_self, and_true, true_and, Int.reduceToNat, tab_ix, List.length_map]
    rw [if_pos (by omega), OkE.ok, show ((rs.length : Int)).toNat = rs.length by omega, rangeW_map]
    refine for_map (fun pre τ S'' => ∃ x3 x4 x5, τ = [some (tabW ls rs m), some (.ref S'.length), none, x3, x4, x5] ∧ S'' = S' ++ [.dK (foundW (pre.foldl (fun acc _ => passM rs acc) ls))] ∧ AllOk (pre.foldl (fun acc _ => passM rs acc) ls)) ⟨_, _, _, rfl, rfl, ho⟩ ?_ ?_
    · rintro pre k post τ S'' e ⟨x3, x4, x5, rfl, rfl, hok⟩
      simp -implicitDefEqProofs only [OkS.ret, OkS.seq, OkS.asg, OkS.exp, OkS.ite, OkS.skip, OkS.brk, OkS.cnt, OkS.for, OkS.while, OkE.bnd, OkE.toS, OkE.ok, OkE.nox, OkE.comp, OkS.nxt, OkS.rtn, mIf, mTest, mBin, mVar, mC, mCall, mCons, mNil, mStar, mSl, mPart, mNoPart, mMeth, mMeth0, mTup, mLst, mLstR, mNeg, mNot, mAnd, mOr, mAndV, mOrV, mNotV, mYes, mRng1, mWk, mEnum, mEnumZip, mZip, mFn, mPar, mPar3, mAug, mIsi, mExpr, gSet, gTupW, gConsW, gNilW, gPut, seqT, startW, wipeW, cName, cTup, cCons, cNil, oIntX, oInt, oAbs, oMin2, oGt, oGe, oLt, oLe, oMod, oFdiv, oSub, oIAdd, Res.bind_ok, Res.toS_ok, noX_okk, List.map_cons, List.map_nil, List.cons_append, List.nil_append, List.append_nil, List.getElem?_cons_zero, List.getElem?_cons_succ, List.set_cons_zero, List.set_cons_succ, List.length_cons, List.length_nil, List.replicate, Nat.reduceAdd, Nat.reduceSub, Nat.add_eq, Nat.add_zero, Nat.sub_self, if_true, if_false, Bool.false_eq_true, reduceIte, Option.getD_some, o_addI, o_slT, o_slS, o_slL, o_lenS, o_lenT, o_lenL, o_lenSc, o_tupS, o_tupL, o_tupT, o_ixT0, o_ixT1, o_ixT2, o_ixL0, o_ixL1, ty_str, sizeLine_eq, Nat.reduceLeDiff, Nat.zero_le, Nat.reduceLT, Int.reduceLT, Int.reduceLE, Int.reduceNeg, and_self, and_true, true_and, Int.reduceToNat, tab_ix]
      have hlp : pre.length ≤ 100 := by
        have := congrArg List.length e
        simp at this
        omega
      have hl0 := foldN_len rs ls pre
      have hmul : pre.length * rs.length ≤ 100 * 100 := Nat.mul_le_mul hlp h1
      refine for_map (fun pr τ S'' => ∃ x4 x5, τ = [some (tabW ls rs m), some (.ref S'.length), none, some (.int (k : Nat)), x4, x5] ∧ S'' = S' ++ [.dK (foundW (pr.foldl stepM (pre.foldl (fun acc _ => passM rs acc) ls)))] ∧ AllOk (pr.foldl stepM (pre.foldl (fun acc _ => passM rs acc) ls))) ⟨_, _, rfl, rfl, hok⟩ ?_ ?_
      · rintro pr p post2 τ S'' e2 ⟨x4, x5, rfl, rfl, hok2⟩
        have hl2 := foldM_len (pre.foldl (fun acc _ => passM rs acc) ls) pr
        have hlp2 : pr.length ≤ 100 := by
          have := congrArg List.length e2
          simp at this
          omega
        have hp := hr p (by rw [e2]; simp)
        have hst := stepM_ok hok2 hp
        rw [List.foldl_append, List.foldl_cons, List.foldl_nil]
        generalize hacc : pr.foldl stepM (pre.foldl (fun acc _ => passM rs acc) ls) = acc at hl2 hok2 hst ⊢
        simp -implicitDefEqProofs only [OkS.ret, OkS.seq, OkS.asg, OkS.exp, OkS.ite, OkS.skip, OkS.brk, OkS.cnt, OkS.for, OkS.while, OkE.bnd, OkE.toS, OkE.ok, OkE.nox, OkE.comp, OkS.nxt, OkS.rtn, mIf, mTest, mBin, mVar, mC, mCall, mCons, mNil, mStar, mSl, mPart, mNoPart, mMeth, mMeth0, mTup, mLst, mLstR, mNeg, mNot, mAnd, mOr, mAndV, mOrV, mNotV, mYes, mRng1, mWk, mEnum, mEnumZip, mZip, mFn, mPar, mPar3, mAug, mIsi, mExpr, gSet, gTupW, gConsW, gNilW, gPut, seqT, startW, wipeW, cName, cTup, cCons, cNil, oIntX, oInt, oAbs, oMin2, oGt, oGe, oLt, oLe, oMod, oFdiv, oSub, oIAdd, Res.bind_ok, Res.toS_ok, noX_okk, List.map_cons, List.map_nil, List.cons_append, List.nil_append, List.append_nil, List.getElem?_cons_zero, List.getElem?_cons_succ, List.set_cons_zero, List.set_cons_succ, List.length_cons, List.length_nil, List.replicate, Nat.reduceAdd, Nat.reduceSub, Nat.add_eq, Nat.add_zero, Nat.sub_self, if_true, if_false, Bool.false_eq_true, reduceIte, Option.getD_some, o_addI, o_slT, o_slS, o_slL, o_lenS, o_lenT, o_lenL, o_lenSc, o_tupS, o_tupL, o_tupT, o_ixT0, o_ixT1, o_ixT2, o_ixL0, o_ixL1, ty_str, sizeLine_eq, Nat.reduceLeDiff, Nat.zero_le, Nat.reduceLT, Int.reduceLT, Int.reduceLE, Int.reduceNeg, and_self, and_true, true_and, Int.reduceToNat, ruleW, in_found (g1 _)]
        by_cases ha : p.1 ∈ acc
        · simp -implicitDefEqProofs only [OkS.ret, OkS.seq, OkS.asg, OkS.exp, OkS.ite, OkS.skip, OkS.brk, OkS.cnt, OkS.for, OkS.while, OkE.bnd, OkE.toS, OkE.ok, OkE.nox, OkE.comp, OkS.nxt, OkS.rtn, mIf, mTest, mBin, mVar, mC, mCall, mCons, mNil, mStar, mSl, mPart, mNoPart, mMeth, mMeth0, mTup, mLst, mLstR, mNeg, mNot, mAnd, mOr, mAndV, mOrV, mNotV, mYes, mRng1, mWk, mEnum, mEnumZip, mZip, mFn, mPar, mPar3, mAug, mIsi, mExpr, gSet, gTupW, gConsW, gNilW, gPut, seqT, startW, wipeW, cName, cTup, cCons, cNil, oIntX, oInt, oAbs, oMin2, oGt, oGe, oLt, oLe, oMod, oFdiv, oSub, oIAdd, Res.bind_ok, Res.toS_ok, noX_okk, List.map_cons, List.map_nil, List.cons_append, List.nil_append, List.append_nil, List.getElem?_cons_zero, List.getElem?_cons_succ, List.set_cons_zero, List.set_cons_succ, List.length_cons, List.length_nil, List.replicate, Nat.reduceAdd, Nat.reduceSub, Nat.add_eq, Nat.add_zero, Nat.sub_self, if_true, if_false, Bool.false_eq_true, reduceIte, Option.getD_some, o_addI, o_slT, o_slS, o_slL, o_lenS, o_lenT, o_lenL, o_lenSc, o_tupS, o_tupL, o_tupT, o_ixT0, o_ixT1, o_ixT2, o_ixL0, o_ixL1, ty_str, sizeLine_eq, Nat.reduceLeDiff, Nat.zero_le, Nat.reduceLT, Int.reduceLT, Int.reduceLE, Int.reduceNeg, and_self, and_true, true_and, Int.reduceToNat, ha, decide_true, in_found (g1 _)]
          by_cases hb : p.2 ∈ acc
          · simp -implicitDefEqProofs only [OkS.ret, OkS.seq, OkS.asg, OkS.exp, OkS.ite, OkS.skip, OkS.brk, OkS.cnt, OkS.for, OkS.while, OkE.bnd, OkE.toS, OkE.ok, OkE.nox, OkE.comp, OkS.nxt, OkS.rtn, mIf, mTest, mBin, mVar, mC, mCall, mCons, mNil, mStar, mSl, mPart, mNoPart, mMeth, mMeth0, mTup, mLst, mLstR, mNeg, mNot, mAnd, mOr, mAndV, mOrV, mNotV, mYes, mRng1, mWk, mEnum, mEnumZip, mZip, mFn, mPar, mPar3, mAug, mIsi, mExpr, gSet, gTupW, gConsW, gNilW, gPut, seqT, startW, wipeW, cName, cTup, cCons, cNil, oIntX, oInt, oAbs, oMin2, oGt, oGe, oLt, oLe, oMod, oFdiv, oSub, oIAdd, Res.bind_ok, Res.toS_ok, noX_okk, List.map_cons, List.map_nil, List.cons_append, List.nil_append, List.append_nil, List.getElem?_cons_zero, List.getElem?_cons_succ, List.set_cons_zero, List.set_cons_succ, List.length_cons, List.length_nil, List.replicate, Nat.reduceAdd, Nat.reduceSub, Nat.add_eq, Nat.add_zero, Nat.sub_self, if_true, if_false, Bool.false_eq_true, reduceIte, Option.getD_some, o_addI, o_slT, o_slS, o_slL, o_lenS, o_lenT, o_lenL, o_lenSc, o_tupS, o_tupL, o_tupT, o_ixT0, o_ixT1, o_ixT2, o_ixL0, o_ixL1, ty_str, sizeLine_eq, Nat.reduceLeDiff, Nat.zero_le, Nat.reduceLT, Int.reduceLT, Int.reduceLE, Int.reduceNeg, and_self, and_true, true_and, Int.reduceToNat, hb, decide_true]
            rw [o_addS (by rw [sizeLine_eq]; have := hp.1.len; have := hp.2.len; omega)]
            simp -implicitDefEqProofs only [OkS.ret, OkS.seq, OkS.asg, OkS.exp, OkS.ite, OkS.skip, OkS.brk, OkS.cnt, OkS.for, OkS.while, OkE.bnd, OkE.toS, OkE.ok, OkE.nox, OkE.comp, OkS.nxt, OkS.rtn, mIf, mTest, mBin, mVar, mC, mCall, mCons, mNil, mStar, mSl, mPart, mNoPart, mMeth, mMeth0, mTup, mLst, mLstR, mNeg, mNot, mAnd, mOr, mAndV, mOrV, mNotV, mYes, mRng1, mWk, mEnum, mEnumZip, mZip, mFn, mPar, mPar3, mAug, mIsi, mExpr, gSet, gTupW, gConsW, gNilW, gPut, seqT, startW, wipeW, cName, cTup, cCons, cNil, oIntX, oInt, oAbs, oMin2, oGt, oGe, oLt, oLe, oMod, oFdiv, oSub, oIAdd, Res.bind_ok, Res.toS_ok, noX_okk, List.map_cons, List.map_nil, List.cons_append, List.nil_append, List.append_nil, List.getElem?_cons_zero, List.getElem?_cons_succ, List.set_cons_zero, List.set_cons_succ, List.length_cons, List.length_nil, List.replicate, Nat.reduceAdd, Nat.reduceSub, Nat.add_eq, Nat.add_zero, Nat.sub_self, if_true, if_false, Bool.false_eq_true, reduceIte, Option.getD_some, o_addI, o_slT, o_slS, o_slL, o_lenS, o_lenT, o_lenL, o_lenSc, o_tupS, o_tupL, o_tupT, o_ixT0, o_ixT1, o_ixT2, o_ixL0, o_ixL1, ty_str, sizeLine_eq, Nat.reduceLeDiff, Nat.zero_le, Nat.reduceLT, Int.reduceLT, Int.reduceLE, Int.reduceNeg, and_self, and_true, true_and, Int.reduceToNat]
            rw [put_found (g1 _) (by omega)]
            simp -implicitDefEqProofs only [OkS.ret, OkS.seq, OkS.asg, OkS.exp, OkS.ite, OkS.skip, OkS.brk, OkS.cnt, OkS.for, OkS.while, OkE.bnd, OkE.toS, OkE.ok, OkE.nox, OkE.comp, OkS.nxt, OkS.rtn, mIf, mTest, mBin, mVar, mC, mCall, mCons, mNil, mStar, mSl, mPart, mNoPart, mMeth, mMeth0, mTup, mLst, mLstR, mNeg, mNot, mAnd, mOr, mAndV, mOrV, mNotV, mYes, mRng1, mWk, mEnum, mEnumZip, mZip, mFn, mPar, mPar3, mAug, mIsi, mExpr, gSet, gTupW, gConsW, gNilW, gPut, seqT, startW, wipeW, cName, cTup, cCons, cNil, oIntX, oInt, oAbs, oMin2, oGt, oGe, oLt, oLe, oMod, oFdiv, oSub, oIAdd, Res.bind_ok, Res.toS_ok, noX_okk, List.map_cons, List.map_nil, List.cons_append, List.nil_append, List.append_nil, List.getElem?_cons_zero, List.getElem?_cons_succ, List.set_cons_zero, List.set_cons_succ, List.length_cons, List.length_nil, List.replicate, Nat.reduceAdd, Nat.reduceSub, Nat.add_eq, Nat.add_zero, Nat.sub_self, if_true, if_false, Bool.false_eq_true, reduceIte, Option.getD_some, o_addI, o_slT, o_slS, o_slL, o_lenS, o_lenT, o_lenL, o_lenSc, o_tupS, o_tupL, o_tupT, o_ixT0, o_ixT1, o_ixT2, o_ixL0, o_ixL1, ty_str, sizeLine_eq, Nat.reduceLeDiff, Nat.zero_le, Nat.reduceLT, Int.reduceLT, Int.reduceLE, Int.reduceNeg, and_self, and_true, true_and, Int.reduceToNat, s1]
            refine ⟨_, _, rfl, ?_, hst⟩
            congr 4
            unfold stepM
            by_cases hc : p.1 ++ p.2 ∈ acc
            · simp [ha, hb, hc]
            · simp [ha, hb, hc]
          · simp -implicitDefEqProofs only [OkS.ret, OkS.seq, OkS.asg, OkS.exp, OkS.ite, OkS.skip, OkS.brk, OkS.cnt, OkS.for, OkS.while, OkE.bnd, OkE.toS, OkE.ok, OkE.nox, OkE.comp, OkS.nxt, OkS.rtn, mIf, mTest, mBin, mVar, mC, mCall, mCons, mNil, mStar, mSl, mPart, mNoPart, mMeth, mMeth0, mTup, mLst, mLstR, mNeg, mNot, mAnd, mOr, mAndV, mOrV, mNotV, mYes, mRng1, mWk, mEnum, mEnumZip, mZip, mFn, mPar, mPar3, mAug, mIsi, mExpr, gSet, gTupW, gConsW, gNilW, gPut, seqT, startW, wipeW, cName, cTup, cCons, cNil, oIntX, oInt, oAbs, oMin2, oGt, oGe, oLt, oLe, oMod, oFdiv, oSub, oIAdd, Res.bind_ok, Res.toS_ok, noX_okk, List.map_cons, List.map_nil, List.cons_append, List.nil_append, List.append_nil, List.getElem?_cons_zero, List.getElem?_cons_succ, List.set_cons_zero, List.set_cons_succ, List.length_cons, List.length_nil, List.replicate, Nat.reduceAdd, Nat.reduceSub, Nat.add_eq, Nat.add_zero, Nat.sub_self, if_true, if_false, Bool.false_eq_true, reduceIte, Option.getD_some, o_addI, o_slT, o_slS, o_slL, o_lenS, o_lenT, o_lenL, o_lenSc, o_tupS, o_tupL, o_tupT, o_ixT0, o_ixT1, o_ixT2, o_ixL0, o_ixL1, ty_str, sizeLine_eq, Nat.reduceLeDiff, Nat.zero_le, Nat.reduceLT, Int.reduceLT, Int.reduceLE, Int.reduceNeg, and_self, and_true, true_and, Int.reduceToNat, hb, decide_false]
            refine ⟨_, _, rfl, ?_, hst⟩
            congr 4
            unfold stepM
            simp [hb]
        · simp -implicitDefEqProofs only [OkS.ret, OkS.seq, OkS.asg, OkS.exp, OkS.ite, OkS.skip, OkS.brk, OkS.cnt, OkS.for, OkS.while, OkE.bnd, OkE.toS, OkE.ok, OkE.nox, OkE.comp, OkS.nxt, OkS.rtn, mIf, mTest, mBin, mVar, mC, mCall, mCons, mNil, mStar, mSl, mPart, mNoPart, mMeth, mMeth0, mTup, mLst, mLstR, mNeg, mNot, mAnd, mOr, mAndV, mOrV, mNotV, mYes, mRng1, mWk, mEnum, mEnumZip, mZip, mFn, mPar, mPar3, mAug, mIsi, mExpr, gSet, gTupW, gConsW, gNilW, gPut, seqT, startW, wipeW, cName, cTup, cCons, cNil, oIntX, oInt, oAbs, oMin2, oGt, oGe, oLt, oLe, oMod, oFdiv, oSub, oIAdd, Res.bind_ok, Res.toS_ok, noX_okk, List.map_cons, List.map_nil, List.cons_append, List.nil_append, List.append_nil, List.getElem?_cons_zero, List.getElem?_cons_succ, List.set_cons_zero, List.set_cons_succ, List.length_cons, List.length_nil, List.replicate, Nat.reduceAdd, Nat.reduceSub, Nat.add_eq, Nat.add_zero, Nat.sub_self, if_true, if_false, Bool.false_eq_true, reduceIte, Option.getD_some, o_addI, o_slT, o_slS, o_slL, o_lenS, o_lenT, o_lenL, o_lenSc, o_tupS, o_tupL, o_tupT, o_ixT0, o_ixT1, o_ixT2, o_ixL0, o_ixL1, ty_str, sizeLine_eq, Nat.reduceLeDiff, Nat.zero_le, Nat.reduceLT, Int.reduceLT, Int.reduceLE, Int.reduceNeg, and_self, and_true, true_and, Int.reduceToNat, ha, decide_false]
          refine ⟨_, _, rfl, ?_, hst⟩
          congr 4
          unfold stepM
          simp [ha]
      · rintro τ S'' ⟨x4, x5, rfl, rfl, hok2⟩
        refine ⟨_, _, _, rfl, ?_, ?_⟩
        · rw [List.foldl_append]; rfl
        · rw [List.foldl_append]; exact hok2
    · rintro τ S'' ⟨x3, x4, x5, rfl, rfl, hok⟩
      have e1 : oListX [.ref S'.length] (S' ++ [.dK (foundW (madeL rs ls rs.length))]) = .ok (.lst ((madeL rs ls rs.length).map W.str)) (S' ++ [.dK (foundW (madeL rs ls rs.length))]) := by
        unfold oListX dictOf
        simp only [g1]
        rw [if_pos]
        · unfold foundW
          rw [List.map_map]
          rfl
        · unfold foundW
          rw [List.all_map, List.all_eq_true]
          intro x hx
          exact hok x hx
      simp -implicitDefEqProofs only [OkS.ret, OkS.seq, OkS.asg, OkS.exp, OkS.ite, OkS.skip, OkS.brk, OkS.cnt, OkS.for, OkS.while, OkE.bnd, OkE.toS, OkE.ok, OkE.nox, OkE.comp, OkS.nxt, OkS.rtn, mIf, mTest, mBin, mVar, mC, mCall, mCons, mNil, mStar, mSl, mPart, mNoPart, mMeth, mMeth0, mTup, mLst, mLstR, mNeg, mNot, mAnd, mOr, mAndV, mOrV, mNotV, mYes, mRng1, mWk, mEnum, mEnumZip, mZip, mFn, mPar, mPar3, mAug, mIsi, mExpr, gSet, gTupW, gConsW, gNilW, gPut, seqT, startW, wipeW, cName, cTup, cCons, cNil, oIntX, oInt, oAbs, oMin2, oGt, oGe, oLt, oLe, oMod, oFdiv, oSub, oIAdd, Res.bind_ok, Res.toS_ok, noX_okk, List.map_cons, List.map_nil, List.cons_append, List.nil_append, List.append_nil, List.getElem?_cons_zero, List.getElem?_cons_succ, List.set_cons_zero, List.set_cons_succ, List.length_cons, List.length_nil, List.replicate, Nat.reduceAdd, Nat.reduceSub, Nat.add_eq, Nat.add_zero, Nat.sub_self, if_true, if_false, Bool.false_eq_true, reduceIte, Option.getD_some, o_addI, o_slT, o_slS, o_slL, o_lenS, o_lenT, o_lenL, o_lenSc, o_tupS, o_tupL, o_tupT, o_ixT0, o_ixT1, o_ixT2, o_ixL0, o_ixL1, ty_str, sizeLine_eq, Nat.reduceLeDiff, Nat.zero_le, Nat.reduceLT, Int.reduceLT, Int.reduceLE, Int.reduceNeg, and_self, and_true, true_and, Int.reduceToNat]
      rw [show (List.range rs.length).foldl (fun acc _ => passM rs acc) ls = madeL rs ls rs.length from rfl, e1]
      simp -implicitDefEqProofs only [OkS.ret, OkS.seq, OkS.asg, OkS.exp, OkS.ite, OkS.skip, OkS.brk, OkS.cnt, OkS.for, OkS.while, OkE.bnd, OkE.toS, OkE.ok, OkE.nox, OkE.comp, OkS.nxt, OkS.rtn, mIf, mTest, mBin, mVar, mC, mCall, mCons, mNil, mStar, mSl, mPart, mNoPart, mMeth, mMeth0, mTup, mLst, mLstR, mNeg, mNot, mAnd, mOr, mAndV, mOrV, mNotV, mYes, mRng1, mWk, mEnum, mEnumZip, mZip, mFn, mPar, mPar3, mAug, mIsi, mExpr, gSet, gTupW, gConsW, gNilW, gPut, seqT, startW, wipeW, cName, cTup, cCons, cNil, oIntX, oInt, oAbs, oMin2, oGt, oGe, oLt, oLe, oMod, oFdiv, oSub, oIAdd, Res.bind_ok, Res.toS_ok, noX_okk, List.map_cons, List.map_nil, List.cons_append, List.nil_append, List.append_nil, List.getElem?_cons_zero, List.getElem?_cons_succ, List.set_cons_zero, List.set_cons_succ, List.length_cons, List.length_nil, List.replicate, Nat.reduceAdd, Nat.reduceSub, Nat.add_eq, Nat.add_zero, Nat.sub_self, if_true, if_false, Bool.false_eq_true, reduceIte, Option.getD_some, o_addI, o_slT, o_slS, o_slL, o_lenS, o_lenT, o_lenL, o_lenSc, o_tupS, o_tupL, o_tupT, o_ixT0, o_ixT1, o_ixT2, o_ixL0, o_ixL1, ty_str, sizeLine_eq, Nat.reduceLeDiff, Nat.zero_le, Nat.reduceLT, Int.reduceLT, Int.reduceLE, Int.reduceNeg, and_self, and_true, true_and, Int.reduceToNat, o_sortS]
      exact ⟨str_data _, CutOk.append, st_take⟩
end Gen
namespace Gen
open PySem PySem.Spec PyProof.Rows L2 Eng
theorem in_listR {l : List Str} {x : Str} {S : Store} {n : Nat} (hS : S[n]? = some (.lst (l.map W.str))) : oIn (.str x) (.ref n) S = .ok (.bl (decide (x ∈ l))) S := by
  unfold oIn
  rw [show inS S (.str x) (.ref n) = some (decide (x ∈ l)) from inS_ref embS (by decide) x l hS]
theorem nin_listR {l : List Str} {x : Str} {S : Store} {n : Nat} (hS : S[n]? = some (.lst (l.map W.str))) : oNotIn (.str x) (.ref n) S = .ok (.bl (!decide (x ∈ l))) S := by
  unfold oNotIn
  rw [show inS S (.str x) (.ref n) = some (decide (x ∈ l)) from inS_ref embS (by decide) x l hS]
theorem strL_data (l : List Str) : (W.lst (l.map W.str)).isData = true := (embL embS).data l
theorem made_eq {ls : List Str} {rs : List Rule} {m : Str} {S : Store} (h1 : rs.length ≤ 100) (h2 : ls.length ≤ 100) (hr : RulesOk rs) :
    m__law_made [tabW ls rs m] S = .ok (.lst ((srt ltS (madeL rs ls rs.length)).map W.str)) S := by
  refine OkE.eqv ?_
  unfold m__law_made fnRes b__law_made
  refine OkE.leave ?_
  have g1 : ∀ a : Ob, (S ++ [a])[S.length]? = some a := fun a => st_get0
  have s1 : ∀ a d : Ob, (S ++ [a]).set S.length d = S ++ [d] := fun a d => st_set0
  have e0 : oListXR [.tup (ls.map W.str)] S = .ok (.ref S.length) (S ++ [.lst (ls.map W.str)]) := rfl
  simp -implicitDefEqProofs only [OkS.ret, OkS.seq, OkS.asg, OkS.exp, OkS.ite, OkS.skip, OkS.brk, OkS.cnt, OkS.for, OkS.while, OkE.bnd, OkE.toS, OkE.ok, OkE.nox, OkE.comp, OkS.nxt, OkS.rtn, mIf, mTest, mBin, mVar, mC, mCall, mCons, mNil, mStar, mSl, mPart, mNoPart, mMeth, mMeth0, mTup, mLst, mLstR, mNeg, mNot, mAnd, mOr, mAndV, mOrV, mNotV, mYes, mRng1, mWk, mEnum, mEnumZip, mZip, mFn, mPar, mPar3, mAug, mIsi, mExpr, gSet, gTupW, gConsW, gNilW, gPut, seqT, startW, wipeW, cName, cTup, cCons, cNil, oIntX, oInt, oAbs, oMin2, oGt, oGe, oLt, oLe, oMod, oFdiv, oSub, oIAdd, Res.bind_ok, Res.toS_ok, noX_okk, List.map_cons, List.map_nil, List.cons_append, List.nil_append, List.append_nil, List.getElem?_cons_zero, List.getElem?_cons_succ, List.set_cons_zero, List.set_cons_succ, List.length_cons, List.length_nil, List.replicate, Nat.reduceAdd, Nat.reduceSub, Nat.add_eq, Nat.add_zero, Nat.sub_self, if_true, if_false, Bool.false_eq_true, reduceIte, Option.getD_some, o_addI, o_slT, o_slS, o_slL, o_lenS, o_lenT, o_lenL, o_lenSc, o_tupS, o_tupL, o_tupT, o_ixT0, o_ixT1, o_ixT2, o_ixL0, o_ixL1, ty_str, sizeLine_eq, Nat.reduceLeDiff, Nat.zero_le, Nat.reduceLT, Int.reduceLT, Int.reduceLE, Int.reduceNeg, and_self, and_true, true_and, Int.reduceToNat, tab_ix, tab_ix0, e0, List.length_map]
  rw [if_pos (by omega), OkE.ok, show ((rs.length : Int)).toNat = rs.length by omega, rangeW_map]
  refine for_map (fun pre τ S'' => ∃ x3 x4 x5, τ = [some (tabW ls rs m), some (.ref S.length), x3, x4, x5] ∧ S'' = S ++ [.lst ((pre.foldl (fun acc _ => passM rs acc) ls).map W.str)]) ⟨_, _, _, rfl, rfl⟩ ?_ ?_
  · rintro pre k post τ S'' e ⟨x3, x4, x5, rfl, rfl⟩
    simp -implicitDefEqProofs only [OkS.ret, OkS.seq, OkS.asg, OkS.exp, OkS.ite, OkS.skip, OkS.brk, OkS.cnt, OkS.for, OkS.while, OkE.bnd, OkE.toS, OkE.ok, OkE.nox, OkE.comp, OkS.nxt, OkS.rtn, mIf, mTest, mBin, mVar, mC, mCall, mCons, mNil, mStar, mSl, mPart, mNoPart, mMeth, mMeth0, mTup, mLst, mLstR, mNeg, mNot, mAnd, mOr, mAndV, mOrV, mNotV, mYes, mRng1, mWk, mEnum, mEnumZip, mZip, mFn, mPar, mPar3, mAug, mIsi, mExpr, gSet, gTupW, gConsW, gNilW, gPut, seqT, startW, wipeW, cName, cTup, cCons, cNil, oIntX, oInt, oAbs, oMin2, oGt, oGe, oLt, oLe, oMod, oFdiv, oSub, oIAdd, Res.bind_ok, Res.toS_ok, noX_okk, List.map_cons, List.map_nil, List.cons_append, List.nil_append, List.append_nil, List.getElem?_cons_zero, List.getElem?_cons_succ, List.set_cons_zero, List.set_cons_succ, List.length_cons, List.length_nil, List.replicate, Nat.reduceAdd, Nat.reduceSub, Nat.add_eq, Nat.add_zero, Nat.sub_self, if_true, if_false, Bool.false_eq_true, reduceIte, Option.getD_some, o_addI, o_slT, o_slS, o_slL, o_lenS, o_lenT, o_lenL, o_lenSc, o_tupS, o_tupL, o_tupT, o_ixT0, o_ixT1, o_ixT2, o_ixL0, o_ixL1, ty_str, sizeLine_eq, Nat.reduceLeDiff, Nat.zero_le, Nat.reduceLT, Int.reduceLT, Int.reduceLE, Int.reduceNeg, and_self, and_true, true_and, Int.reduceToNat, tab_ix]
    have hlp : pre.length ≤ 100 := by
      have := congrArg List.length e
      simp at this
      omega
    have hl0 := foldN_len rs ls pre
    have hmul : pre.length * rs.length ≤ 100 * 100 := Nat.mul_le_mul hlp h1
    refine for_map (fun pr τ S'' => ∃ x4 x5, τ = [some (tabW ls rs m), some (.ref S.length), some (.int (k : Nat)), x4, x5] ∧ S'' = S ++ [.lst ((pr.foldl stepM (pre.foldl (fun acc _ => passM rs acc) ls)).map W.str)]) ⟨_, _, rfl, rfl⟩ ?_ ?_
    · rintro pr p post2 τ S'' e2 ⟨x4, x5, rfl, rfl⟩
      have hl2 := foldM_len (pre.foldl (fun acc _ => passM rs acc) ls) pr
      have hlp2 : pr.length ≤ 100 := by
        have := congrArg List.length e2
        simp at this
        omega
      have hp := hr p (by rw [e2]; simp)
      rw [List.foldl_append, List.foldl_cons, List.foldl_nil]
      generalize hacc : pr.foldl stepM (pre.foldl (fun acc _ => passM rs acc) ls) = acc at hl2 ⊢
      have ea : ∀ S, oAdd (.str p.1) (.str p.2) S = .ok (.str (p.1 ++ p.2)) S := fun S => o_addS (by rw [sizeLine_eq]; have := hp.1.len; have := hp.2.len; omega)
      simp -implicitDefEqProofs only [OkS.ret, OkS.seq, OkS.asg, OkS.exp, OkS.ite, OkS.skip, OkS.brk, OkS.cnt, OkS.for, OkS.while, OkE.bnd, OkE.toS, OkE.ok, OkE.nox, OkE.comp, OkS.nxt, OkS.rtn, mIf, mTest, mBin, mVar, mC, mCall, mCons, mNil, mStar, mSl, mPart, mNoPart, mMeth, mMeth0, mTup, mLst, mLstR, mNeg, mNot, mAnd, mOr, mAndV, mOrV, mNotV, mYes, mRng1, mWk, mEnum, mEnumZip, mZip, mFn, mPar, mPar3, mAug, mIsi, mExpr, gSet, gTupW, gConsW, gNilW, gPut, seqT, startW, wipeW, cName, cTup, cCons, cNil, oIntX, oInt, oAbs, oMin2, oGt, oGe, oLt, oLe, oMod, oFdiv, oSub, oIAdd, Res.bind_ok, Res.toS_ok, noX_okk, List.map_cons, List.map_nil, List.cons_append, List.nil_append, List.append_nil, List.getElem?_cons_zero, List.getElem?_cons_succ, List.set_cons_zero, List.set_cons_succ, List.length_cons, List.length_nil, List.replicate, Nat.reduceAdd, Nat.reduceSub, Nat.add_eq, Nat.add_zero, Nat.sub_self, if_true, if_false, Bool.false_eq_true, reduceIte, Option.getD_some, o_addI, o_slT, o_slS, o_slL, o_lenS, o_lenT, o_lenL, o_lenSc, o_tupS, o_tupL, o_tupT, o_ixT0, o_ixT1, o_ixT2, o_ixL0, o_ixL1, ty_str, sizeLine_eq, Nat.reduceLeDiff, Nat.zero_le, Nat.reduceLT, Int.reduceLT, Int.reduceLE, Int.reduceNeg, and_self, and_true, true_and, Int.reduceToNat, ruleW, in_listR (g1 _)]
      by_cases ha : p.1 ∈ acc
      · simp -implicitDefEqProofs only [OkS.ret, OkS.seq, OkS.asg, OkS.exp, OkS.ite, OkS.skip, OkS.brk, OkS.cnt, OkS.for, OkS.while, OkE.bnd, OkE.toS, OkE.ok, OkE.nox, OkE.comp, OkS.nxt, OkS.rtn, mIf, mTest, mBin, mVar, mC, mCall, mCons, mNil, mStar, mSl, mPart, mNoPart, mMeth, mMeth0, mTup, mLst, mLstR, mNeg, mNot, mAnd, mOr, mAndV, mOrV, mNotV, mYes, mRng1, mWk, mEnum, mEnumZip, mZip, mFn, mPar, mPar3, mAug, mIsi, mExpr, gSet, gTupW, gConsW, gNilW, gPut, seqT, startW, wipeW, cName, cTup, cCons, cNil, oIntX, oInt, oAbs, oMin2, oGt, oGe, oLt, oLe, oMod, oFdiv, oSub, oIAdd, Res.bind_ok, Res.toS_ok, noX_okk, List.map_cons, List.map_nil, List.cons_append, List.nil_append, List.append_nil, List.getElem?_cons_zero, List.getElem?_cons_succ, List.set_cons_zero, List.set_cons_succ, List.length_cons, List.length_nil, List.replicate, Nat.reduceAdd, Nat.reduceSub, Nat.add_eq, Nat.add_zero, Nat.sub_self, if_true, if_false, Bool.false_eq_true, reduceIte, Option.getD_some, o_addI, o_slT, o_slS, o_slL, o_lenS, o_lenT, o_lenL, o_lenSc, o_tupS, o_tupL, o_tupT, o_ixT0, o_ixT1, o_ixT2, o_ixL0, o_ixL1, ty_str, sizeLine_eq, Nat.reduceLeDiff, Nat.zero_le, Nat.reduceLT, Int.reduceLT, Int.reduceLE, Int.reduceNeg, and_self, and_true, true_and, Int.reduceToNat, ha, decide_true, in_listR (g1 _)]
        by_cases hb : p.2 ∈ acc
        · simp -implicitDefEqProofs only [OkS.ret, OkS.seq, OkS.asg, OkS.exp, OkS.ite, OkS.skip, OkS.brk, OkS.cnt, OkS.for, OkS.while, OkE.bnd, OkE.toS, OkE.ok, OkE.nox, OkE.comp, OkS.nxt, OkS.rtn, mIf, mTest, mBin, mVar, mC, mCall, mCons, mNil, mStar, mSl, mPart, mNoPart, mMeth, mMeth0, mTup, mLst, mLstR, mNeg, mNot, mAnd, mOr, mAndV, mOrV, mNotV, mYes, mRng1, mWk, mEnum, mEnumZip, mZip, mFn, mPar, mPar3, mAug, mIsi, mExpr, gSet, gTupW, gConsW, gNilW, gPut, seqT, startW, wipeW, cName, cTup, cCons, cNil, oIntX, oInt, oAbs, oMin2, oGt, oGe, oLt, oLe, oMod, oFdiv, oSub, oIAdd, Res.bind_ok, Res.toS_ok, noX_okk, List.map_cons, List.map_nil, List.cons_append, List.nil_append, List.append_nil, List.getElem?_cons_zero, List.getElem?_cons_succ, List.set_cons_zero, List.set_cons_succ, List.length_cons, List.length_nil, List.replicate, Nat.reduceAdd, Nat.reduceSub, Nat.add_eq, Nat.add_zero, Nat.sub_self, if_true, if_false, Bool.false_eq_true, reduceIte, Option.getD_some, o_addI, o_slT, o_slS, o_slL, o_lenS, o_lenT, o_lenL, o_lenSc, o_tupS, o_tupL, o_tupT, o_ixT0, o_ixT1, o_ixT2, o_ixL0, o_ixL1, ty_str, sizeLine_eq, Nat.reduceLeDiff, Nat.zero_le, Nat.reduceLT, Int.reduceLT, Int.reduceLE, Int.reduceNeg, and_self, and_true, true_and, Int.reduceToNat, hb, decide_true, ea, nin_listR (g1 _)]
          by_cases hc : p.1 ++ p.2 ∈ acc
          · simp -implicitDefEqProofs only [OkS.ret, OkS.seq, OkS.asg, OkS.exp, OkS.ite, OkS.skip, OkS.brk, OkS.cnt, OkS.for, OkS.while, OkE.bnd, OkE.toS, OkE.ok, OkE.nox, OkE.comp, OkS.nxt, OkS.rtn, mIf, mTest, mBin, mVar, mC, mCall, mCons, mNil, mStar, mSl, mPart, mNoPart, mMeth, mMeth0, mTup, mLst, mLstR, mNeg, mNot, mAnd, mOr, mAndV, mOrV, mNotV, mYes, mRng1, mWk, mEnum, mEnumZip, mZip, mFn, mPar, mPar3, mAug, mIsi, mExpr, gSet, gTupW, gConsW, gNilW, gPut, seqT, startW, wipeW, cName, cTup, cCons, cNil, oIntX, oInt, oAbs, oMin2, oGt, oGe, oLt, oLe, oMod, oFdiv, oSub, oIAdd, Res.bind_ok, Res.toS_ok, noX_okk, List.map_cons, List.map_nil, List.cons_append, List.nil_append, List.append_nil, List.getElem?_cons_zero, List.getElem?_cons_succ, List.set_cons_zero, List.set_cons_succ, List.length_cons, List.length_nil, List.replicate, Nat.reduceAdd, Nat.reduceSub, Nat.add_eq, Nat.add_zero, Nat.sub_self, if_true, if_false, Bool.false_eq_true, reduceIte, Option.getD_some, o_addI, o_slT, o_slS, o_slL, o_lenS, o_lenT, o_lenL, o_lenSc, o_tupS, o_tupL, o_tupT, o_ixT0, o_ixT1, o_ixT2, o_ixL0, o_ixL1, ty_str, sizeLine_eq, Nat.reduceLeDiff, Nat.zero_le, Nat.reduceLT, Int.reduceLT, Int.reduceLE, Int.reduceNeg, and_self, and_true, true_and, Int.reduceToNat, hc, decide_true, Bool.not_true]
            refine ⟨_, _, rfl, ?_⟩
            congr 4
            unfold stepM
            simp [hc]
          · simp -implicitDefEqProofs only [OkS.ret, OkS.seq, OkS.asg, OkS.exp, OkS.ite, OkS.skip, OkS.brk, OkS.cnt, OkS.for, OkS.while, OkE.bnd, OkE.toS, OkE.ok, OkE.nox, OkE.comp, OkS.nxt, OkS.rtn, mIf, mTest, mBin, mVar, mC, mCall, mCons, mNil, mStar, mSl, mPart, mNoPart, mMeth, mMeth0, mTup, mLst, mLstR, mNeg, mNot, mAnd, mOr, mAndV, mOrV, mNotV, mYes, mRng1, mWk, mEnum, mEnumZip, mZip, mFn, mPar, mPar3, mAug, mIsi, mExpr, gSet, gTupW, gConsW, gNilW, gPut, seqT, startW, wipeW, cName, cTup, cCons, cNil, oIntX, oInt, oAbs, oMin2, oGt, oGe, oLt, oLe, oMod, oFdiv, oSub, oIAdd, Res.bind_ok, Res.toS_ok, noX_okk, List.map_cons, List.map_nil, List.cons_append, List.nil_append, List.append_nil, List.getElem?_cons_zero, List.getElem?_cons_succ, List.set_cons_zero, List.set_cons_succ, List.length_cons, List.length_nil, List.replicate, Nat.reduceAdd, Nat.reduceSub, Nat.add_eq, Nat.add_zero, Nat.sub_self, if_true, if_false, Bool.false_eq_true, reduceIte, Option.getD_some, o_addI, o_slT, o_slS, o_slL, o_lenS, o_lenT, o_lenL, o_lenSc, o_tupS, o_tupL, o_tupT, o_ixT0, o_ixT1, o_ixT2, o_ixL0, o_ixL1, ty_str, sizeLine_eq, Nat.reduceLeDiff, Nat.zero_le, Nat.reduceLT, Int.reduceLT, Int.reduceLE, Int.reduceNeg, and_self, and_true, true_and, Int.reduceToNat, hc, decide_false, Bool.not_false, ea, ty_ref (g1 _)]
            rw [o_app (g1 _) (by rw [List.length_map, sizeLine_eq]; omega), OkE.ok, s1]
            refine ⟨_, _, rfl, ?_⟩
            unfold stepM
            simp [ha, hb, hc]
        · simp -implicitDefEqProofs only [OkS.ret, OkS.seq, OkS.asg, OkS.exp, OkS.ite, OkS.skip, OkS.brk, OkS.cnt, OkS.for, OkS.while, OkE.bnd, OkE.toS, OkE.ok, OkE.nox, OkE.comp, OkS.nxt, OkS.rtn, mIf, mTest, mBin, mVar, mC, mCall, mCons, mNil, mStar, mSl, mPart, mNoPart, mMeth, mMeth0, mTup, mLst, mLstR, mNeg, mNot, mAnd, mOr, mAndV, mOrV, mNotV, mYes, mRng1, mWk, mEnum, mEnumZip, mZip, mFn, mPar, mPar3, mAug, mIsi, mExpr, gSet, gTupW, gConsW, gNilW, gPut, seqT, startW, wipeW, cName, cTup, cCons, cNil, oIntX, oInt, oAbs, oMin2, oGt, oGe, oLt, oLe, oMod, oFdiv, oSub, oIAdd, Res.bind_ok, Res.toS_ok, noX_okk, List.map_cons, List.map_nil, List.cons_append, List.nil_append, List.append_nil, List.getElem?_cons_zero, List.getElem?_cons_succ, List.set_cons_zero, List.set_cons_succ, List.length_cons, List.length_nil, List.replicate, Nat.reduceAdd, Nat.reduceSub, Nat.add_eq, Nat.add_zero, Nat.sub_self, if_true, if_false, Bool.false_eq_true, reduceIte, Option.getD_some, o_addI, o_slT, o_slS, o_slL, o_lenS, o_lenT, o_lenL, o_lenSc, o_tupS, o_tupL, o_tupT, o_ixT0, o_ixT1, o_ixT2, o_ixL0, o_ixL1, ty_str, sizeLine_eq, Nat.reduceLeDiff, Nat.zero_le, Nat.reduceLT, Int.reduceLT, Int.reduceLE, Int.reduceNeg, and_self, and_true, true_and, Int.reduceToNat, hb, decide_false]
          refine ⟨_, _, rfl, ?_⟩
          congr 4
          unfold stepM
          simp [hb]
      · simp -implicitDefEqProofs only [OkS.ret, OkS.seq, OkS.asg, OkS.exp, OkS.ite, OkS.skip, OkS.brk, OkS.cnt, OkS.for, OkS.while, OkE.bnd, OkE.toS, OkE.ok, OkE.nox, OkE.comp, OkS.nxt, OkS.rtn, mIf, mTest, mBin, mVar, mC, mCall, mCons, mNil, mStar, mSl, mPart, mNoPart, mMeth, mMeth0, mTup, mLst, mLstR, mNeg, mNot, mAnd, mOr, mAndV, mOrV, mNotV, mYes, mRng1, mWk, mEnum, mEnumZip, mZip, mFn, mPar, mPar3, mAug, mIsi, mExpr, gSet, gTupW, gConsW, gNilW, gPut, seqT, startW, wipeW, cName, cTup, cCons, cNil, oIntX, oInt, oAbs, oMin2, oGt, oGe, oLt, oLe, oMod, oFdiv, oSub, oIAdd, Res.bind_ok, Res.toS_ok, noX_okk, List.map_cons, List.map_nil, List.cons_append, List.nil_append, List.append_nil, List.getElem?_cons_zero, List.getElem?_cons_succ, List.set_cons_zero, List.set_cons_succ, List.length_cons, List.length_nil, List.replicate, Nat.reduceAdd, Nat.reduceSub, Nat.add_eq, Nat.add_zero, Nat.sub_self, if_true, if_false, Bool.false_eq_true, reduceIte, Option.getD_some, o_addI, o_slT, o_slS, o_slL, o_lenS, o_lenT, o_lenL, o_lenSc, o_tupS, o_tupL, o_tupT, o_ixT0, o_ixT1, o_ixT2, o_ixL0, o_ixL1, ty_str, sizeLine_eq, Nat.reduceLeDiff, Nat.zero_le, Nat.reduceLT, Int.reduceLT, Int.reduceLE, Int.reduceNeg, and_self, and_true, true_and, Int.reduceToNat, ha, decide_false]
        refine ⟨_, _, rfl, ?_⟩
        congr 4
        unfold stepM
        simp [ha]
    · rintro τ S'' ⟨x4, x5, rfl, rfl⟩
      refine ⟨_, _, _, rfl, ?_⟩
      rw [List.foldl_append]; rfl
  · rintro τ S'' ⟨x3, x4, x5, rfl, rfl⟩
    simp -implicitDefEqProofs only [OkS.ret, OkS.seq, OkS.asg, OkS.exp, OkS.ite, OkS.skip, OkS.brk, OkS.cnt, OkS.for, OkS.while, OkE.bnd, OkE.toS, OkE.ok, OkE.nox, OkE.comp, OkS.nxt, OkS.rtn, mIf, mTest, mBin, mVar, mC, mCall, mCons, mNil, mStar, mSl, mPart, mNoPart, mMeth, mMeth0, mTup, mLst, mLstR, mNeg, mNot, mAnd, mOr, mAndV, mOrV, mNotV, mYes, mRng1, mWk, mEnum, mEnumZip, mZip, mFn, mPar, mPar3, mAug, mIsi, mExpr, gSet, gTupW, gConsW, gNilW, gPut, seqT, startW, wipeW, cName, cTup, cCons, cNil, oIntX, oInt, oAbs, oMin2, oGt, oGe, oLt, oLe, oMod, oFdiv, oSub, oIAdd, Res.bind_ok, Res.toS_ok, noX_okk, List.map_cons, List.map_nil, List.cons_append, List.nil_append, List.append_nil, List.getElem?_cons_zero, List.getElem?_cons_succ, List.set_cons_zero, List.set_cons_succ, List.length_cons, List.length_nil, List.replicate, Nat.reduceAdd, Nat.reduceSub, Nat.add_eq, Nat.add_zero, Nat.sub_self, if_true, if_false, Bool.false_eq_true, reduceIte, Option.getD_some, o_addI, o_slT, o_slS, o_slL, o_lenS, o_lenT, o_lenL, o_lenSc, o_tupS, o_tupL, o_tupT, o_ixT0, o_ixT1, o_ixT2, o_ixL0, o_ixL1, ty_str, sizeLine_eq, Nat.reduceLeDiff, Nat.zero_le, Nat.reduceLT, Int.reduceLT, Int.reduceLE, Int.reduceNeg, and_self, and_true, true_and, Int.reduceToNat]
    rw [show (List.range rs.length).foldl (fun acc _ => passM rs acc) ls = madeL rs ls rs.length from rfl, o_sortR (g1 _)]
    simp -implicitDefEqProofs only [OkS.ret, OkS.seq, OkS.asg, OkS.exp, OkS.ite, OkS.skip, OkS.brk, OkS.cnt, OkS.for, OkS.while, OkE.bnd, OkE.toS, OkE.ok, OkE.nox, OkE.comp, OkS.nxt, OkS.rtn, mIf, mTest, mBin, mVar, mC, mCall, mCons, mNil, mStar, mSl, mPart, mNoPart, mMeth, mMeth0, mTup, mLst, mLstR, mNeg, mNot, mAnd, mOr, mAndV, mOrV, mNotV, mYes, mRng1, mWk, mEnum, mEnumZip, mZip, mFn, mPar, mPar3, mAug, mIsi, mExpr, gSet, gTupW, gConsW, gNilW, gPut, seqT, startW, wipeW, cName, cTup, cCons, cNil, oIntX, oInt, oAbs, oMin2, oGt, oGe, oLt, oLe, oMod, oFdiv, oSub, oIAdd, Res.bind_ok, Res.toS_ok, noX_okk, List.map_cons, List.map_nil, List.cons_append, List.nil_append, List.append_nil, List.getElem?_cons_zero, List.getElem?_cons_succ, List.set_cons_zero, List.set_cons_succ, List.length_cons, List.length_nil, List.replicate, Nat.reduceAdd, Nat.reduceSub, Nat.add_eq, Nat.add_zero, Nat.sub_self, if_true, if_false, Bool.false_eq_true, reduceIte, Option.getD_some, o_addI, o_slT, o_slS, o_slL, o_lenS, o_lenT, o_lenL, o_lenSc, o_tupS, o_tupL, o_tupT, o_ixT0, o_ixT1, o_ixT2, o_ixL0, o_ixL1, ty_str, sizeLine_eq, Nat.reduceLeDiff, Nat.zero_le, Nat.reduceLT, Int.reduceLT, Int.reduceLE, Int.reduceNeg, and_self, and_true, true_and, Int.reduceToNat]
    exact ⟨strL_data _, CutOk.append, st_take⟩
/-! _law_same -/
theorem kitB_t : kitB "tuple" "tuple" = some true := by decide +kernel
theorem kitB_s : kitB "str" "tuple" = some false ∧ kitB "str" "bool" = some false ∧ kitB "str" "int" = some false ∧ kitB "str" "str" = some true := by decide +kernel
theorem oAll_true {n : Nat} {S : Store} : oAll [.lst (List.replicate n (.bl true))] S = .ok (.bl true) S := by
  have : ∀ n, oAll.blsW (List.replicate n (W.bl true)) = some (List.replicate n true) := fun n => by
    induction n with
    | zero => rfl
    | succ n ih => rw [List.replicate_succ, oAll.blsW, ih]; rfl
  unfold oAll
  simp only [this]
  simp
theorem same_str {d : Nat} {x : Str} {S : Store} : m__law_same (d + 1) [.str x, .str x] S = .ok (.bl true) S := by
  refine OkE.eqv ?_
  unfold m__law_same fnRes b__law_same
  refine OkE.leave ?_
  simp -implicitDefEqProofs only [OkS.ret, OkS.seq, OkS.asg, OkS.exp, OkS.ite, OkS.skip, OkS.brk, OkS.cnt, OkS.for, OkS.while, OkE.bnd, OkE.toS, OkE.ok, OkE.nox, OkE.comp, OkS.nxt, OkS.rtn, mIf, mTest, mBin, mVar, mC, mCall, mCons, mNil, mStar, mSl, mPart, mNoPart, mMeth, mMeth0, mTup, mLst, mLstR, mNeg, mNot, mAnd, mOr, mAndV, mOrV, mNotV, mYes, mRng1, mWk, mEnum, mEnumZip, mZip, mFn, mPar, mPar3, mAug, mIsi, mExpr, gSet, gTupW, gConsW, gNilW, gPut, seqT, startW, wipeW, cName, cTup, cCons, cNil, oIntX, oInt, oAbs, oMin2, oGt, oGe, oLt, oLe, oMod, oFdiv, oSub, oIAdd, Res.bind_ok, Res.toS_ok, noX_okk, List.map_cons, List.map_nil, List.cons_append, List.nil_append, List.append_nil, List.getElem?_cons_zero, List.getElem?_cons_succ, List.set_cons_zero, List.set_cons_succ, List.length_cons, List.length_nil, List.replicate, Nat.reduceAdd, Nat.reduceSub, Nat.add_eq, Nat.add_zero, Nat.sub_self, if_true, if_false, Bool.false_eq_true, reduceIte, Option.getD_some, o_addI, o_slT, o_slS, o_slL, o_lenS, o_lenT, o_lenL, o_lenSc, o_tupS, o_tupL, o_tupT, o_ixT0, o_ixT1, o_ixT2, o_ixL0, o_ixL1, ty_str, sizeLine_eq, Nat.reduceLeDiff, Nat.zero_le, Nat.reduceLT, Int.reduceLT, Int.reduceLE, Int.reduceNeg, and_self, and_true, true_and, Int.reduceToNat, tyName, kitB_s.1, kitB_s.2.1, kitB_s.2.2.1, kitB_s.2.2.2, oIs, W.isN]
  rw [show oEq (.str x) (.str x) S = .ok (.bl (decide (x = x))) S from oEq_emb embS (by decide) x x]
  simp -implicitDefEqProofs only [OkS.ret, OkS.seq, OkS.asg, OkS.exp, OkS.ite, OkS.skip, OkS.brk, OkS.cnt, OkS.for, OkS.while, OkE.bnd, OkE.toS, OkE.ok, OkE.nox, OkE.comp, OkS.nxt, OkS.rtn, mIf, mTest, mBin, mVar, mC, mCall, mCons, mNil, mStar, mSl, mPart, mNoPart, mMeth, mMeth0, mTup, mLst, mLstR, mNeg, mNot, mAnd, mOr, mAndV, mOrV, mNotV, mYes, mRng1, mWk, mEnum, mEnumZip, mZip, mFn, mPar, mPar3, mAug, mIsi, mExpr, gSet, gTupW, gConsW, gNilW, gPut, seqT, startW, wipeW, cName, cTup, cCons, cNil, oIntX, oInt, oAbs, oMin2, oGt, oGe, oLt, oLe, oMod, oFdiv, oSub, oIAdd, Res.bind_ok, Res.toS_ok, noX_okk, List.map_cons, List.map_nil, List.cons_append, List.nil_append, List.append_nil, List.getElem?_cons_zero, List.getElem?_cons_succ, List.set_cons_zero, List.set_cons_succ, List.length_cons, List.length_nil, List.replicate, Nat.reduceAdd, Nat.reduceSub, Nat.add_eq, Nat.add_zero, Nat.sub_self, if_true, if_false, Bool.false_eq_true, reduceIte, Option.getD_some, o_addI, o_slT, o_slS, o_slL, o_lenS, o_lenT, o_lenL, o_lenSc, o_tupS, o_tupL, o_tupT, o_ixT0, o_ixT1, o_ixT2, o_ixL0, o_ixL1, ty_str, sizeLine_eq, Nat.reduceLeDiff, Nat.zero_le, Nat.reduceLT, Int.reduceLT, Int.reduceLE, Int.reduceNeg, and_self, and_true, true_and, Int.reduceToNat, decide_true]
  exact ⟨rfl, CutOk.refl, List.take_length⟩
theorem same_tup {d : Nat} {xs : List W} {S : Store} (hl : xs.length ≤ 1000000) (h : ∀ x ∈ xs, ∀ S, m__law_same d [x, x] S = .ok (.bl true) S) : m__law_same (d + 1) [.tup xs, .tup xs] S = .ok (.bl true) S := by
  refine OkE.eqv ?_
  unfold m__law_same fnRes b__law_same
  refine OkE.leave ?_
  have e : ∀ S, oNe (.int xs.length) (.int xs.length) S = .ok (.bl false) S := fun S => by
    rw [show oNe (.int xs.length) (.int xs.length) S = .ok (.bl (!decide ((xs.length : Int) = xs.length))) S from oNe_emb embI (by decide) _ _]
    simp
  simp -implicitDefEqProofs only [OkS.ret, OkS.seq, OkS.asg, OkS.exp, OkS.ite, OkS.skip, OkS.brk, OkS.cnt, OkS.for, OkS.while, OkE.bnd, OkE.toS, OkE.ok, OkE.nox, OkE.comp, OkS.nxt, OkS.rtn, mIf, mTest, mBin, mVar, mC, mCall, mCons, mNil, mStar, mSl, mPart, mNoPart, mMeth, mMeth0, mTup, mLst, mLstR, mNeg, mNot, mAnd, mOr, mAndV, mOrV, mNotV, mYes, mRng1, mWk, mEnum, mEnumZip, mZip, mFn, mPar, mPar3, mAug, mIsi, mExpr, gSet, gTupW, gConsW, gNilW, gPut, seqT, startW, wipeW, cName, cTup, cCons, cNil, oIntX, oInt, oAbs, oMin2, oGt, oGe, oLt, oLe, oMod, oFdiv, oSub, oIAdd, Res.bind_ok, Res.toS_ok, noX_okk, List.map_cons, List.map_nil, List.cons_append, List.nil_append, List.append_nil, List.getElem?_cons_zero, List.getElem?_cons_succ, List.set_cons_zero, List.set_cons_succ, List.length_cons, List.length_nil, List.replicate, Nat.reduceAdd, Nat.reduceSub, Nat.add_eq, Nat.add_zero, Nat.sub_self, if_true, if_false, Bool.false_eq_true, reduceIte, Option.getD_some, o_addI, o_slT, o_slS, o_slL, o_lenS, o_lenT, o_lenL, o_lenSc, o_tupS, o_tupL, o_tupT, o_ixT0, o_ixT1, o_ixT2, o_ixL0, o_ixL1, ty_str, sizeLine_eq, Nat.reduceLeDiff, Nat.zero_le, Nat.reduceLT, Int.reduceLT, Int.reduceLE, Int.reduceNeg, and_self, and_true, true_and, Int.reduceToNat, tyName, kitB_t, Bool.not_true, e]
  rw [if_pos (by omega), OkE.ok, show ((xs.length : Int)).toNat = xs.length by omega, rangeW_map]
  refine comp_pure (fun _ => true) (fun _ => W.bl true) (by rw [List.length_range, sizeLine_eq]; omega) (fun k hk => ?_) ?_
  · have hk := List.mem_range.mp hk
    have ex : ∀ S, oIx (.tup xs) (.int (k : Nat)) S = .ok xs[k] S := fun S => o_ixT (by rw [atI_n, List.getElem?_eq_getElem hk])
    refine ⟨[some (.tup xs), some (.tup xs), some (.int (k : Nat))], by simp -implicitDefEqProofs only [OkS.ret, OkS.seq, OkS.asg, OkS.exp, OkS.ite, OkS.skip, OkS.brk, OkS.cnt, OkS.for, OkS.while, OkE.bnd, OkE.toS, OkE.ok, OkE.nox, OkE.comp, OkS.nxt, OkS.rtn, mIf, mTest, mBin, mVar, mC, mCall, mCons, mNil, mStar, mSl, mPart, mNoPart, mMeth, mMeth0, mTup, mLst, mLstR, mNeg, mNot, mAnd, mOr, mAndV, mOrV, mNotV, mYes, mRng1, mWk, mEnum, mEnumZip, mZip, mFn, mPar, mPar3, mAug, mIsi, mExpr, gSet, gTupW, gConsW, gNilW, gPut, seqT, startW, wipeW, cName, cTup, cCons, cNil, oIntX, oInt, oAbs, oMin2, oGt, oGe, oLt, oLe, oMod, oFdiv, oSub, oIAdd, Res.bind_ok, Res.toS_ok, noX_okk, List.map_cons, List.map_nil, List.cons_append, List.nil_append, List.append_nil, List.getElem?_cons_zero, List.getElem?_cons_succ, List.set_cons_zero, List.set_cons_succ, List.length_cons, List.length_nil, List.replicate, Nat.reduceAdd, Nat.reduceSub, Nat.add_eq, Nat.add_zero, Nat.sub_self, if_true, if_false, Bool.false_eq_true, reduceIte, Option.getD_some, o_addI, o_slT, o_slS, o_slL, o_lenS, o_lenT, o_lenL, o_lenSc, o_tupS, o_tupL, o_tupT, o_ixT0, o_ixT1, o_ixT2, o_ixL0, o_ixL1, ty_str, sizeLine_eq, Nat.reduceLeDiff, Nat.zero_le, Nat.reduceLT, Int.reduceLT, Int.reduceLE, Int.reduceNeg, and_self, and_true, true_and, Int.reduceToNat], rfl, fun _ => ?_⟩
    simp -implicitDefEqProofs only [OkS.ret, OkS.seq, OkS.asg, OkS.exp, OkS.ite, OkS.skip, OkS.brk, OkS.cnt, OkS.for, OkS.while, OkE.bnd, OkE.toS, OkE.ok, OkE.nox, OkE.comp, OkS.nxt, OkS.rtn, mIf, mTest, mBin, mVar, mC, mCall, mCons, mNil, mStar, mSl, mPart, mNoPart, mMeth, mMeth0, mTup, mLst, mLstR, mNeg, mNot, mAnd, mOr, mAndV, mOrV, mNotV, mYes, mRng1, mWk, mEnum, mEnumZip, mZip, mFn, mPar, mPar3, mAug, mIsi, mExpr, gSet, gTupW, gConsW, gNilW, gPut, seqT, startW, wipeW, cName, cTup, cCons, cNil, oIntX, oInt, oAbs, oMin2, oGt, oGe, oLt, oLe, oMod, oFdiv, oSub, oIAdd, Res.bind_ok, Res.toS_ok, noX_okk, List.map_cons, List.map_nil, List.cons_append, List.nil_append, List.append_nil, List.getElem?_cons_zero, List.getElem?_cons_succ, List.set_cons_zero, List.set_cons_succ, List.length_cons, List.length_nil, List.replicate, Nat.reduceAdd, Nat.reduceSub, Nat.add_eq, Nat.add_zero, Nat.sub_self, if_true, if_false, Bool.false_eq_true, reduceIte, Option.getD_some, o_addI, o_slT, o_slS, o_slL, o_lenS, o_lenT, o_lenL, o_lenSc, o_tupS, o_tupL, o_tupT, o_ixT0, o_ixT1, o_ixT2, o_ixL0, o_ixL1, ty_str, sizeLine_eq, Nat.reduceLeDiff, Nat.zero_le, Nat.reduceLT, Int.reduceLT, Int.reduceLE, Int.reduceNeg, and_self, and_true, true_and, Int.reduceToNat, ex, h _ (List.getElem_mem hk)]
  · rw [List.filter_eq_self.mpr (fun _ _ => rfl), List.map_const', List.length_range, oAll_true]
    simp -implicitDefEqProofs only [OkS.ret, OkS.seq, OkS.asg, OkS.exp, OkS.ite, OkS.skip, OkS.brk, OkS.cnt, OkS.for, OkS.while, OkE.bnd, OkE.toS, OkE.ok, OkE.nox, OkE.comp, OkS.nxt, OkS.rtn, mIf, mTest, mBin, mVar, mC, mCall, mCons, mNil, mStar, mSl, mPart, mNoPart, mMeth, mMeth0, mTup, mLst, mLstR, mNeg, mNot, mAnd, mOr, mAndV, mOrV, mNotV, mYes, mRng1, mWk, mEnum, mEnumZip, mZip, mFn, mPar, mPar3, mAug, mIsi, mExpr, gSet, gTupW, gConsW, gNilW, gPut, seqT, startW, wipeW, cName, cTup, cCons, cNil, oIntX, oInt, oAbs, oMin2, oGt, oGe, oLt, oLe, oMod, oFdiv, oSub, oIAdd, Res.bind_ok, Res.toS_ok, noX_okk, List.map_cons, List.map_nil, List.cons_append, List.nil_append, List.append_nil, List.getElem?_cons_zero, List.getElem?_cons_succ, List.set_cons_zero, List.set_cons_succ, List.length_cons, List.length_nil, List.replicate, Nat.reduceAdd, Nat.reduceSub, Nat.add_eq, Nat.add_zero, Nat.sub_self, if_true, if_false, Bool.false_eq_true, reduceIte, Option.getD_some, o_addI, o_slT, o_slS, o_slL, o_lenS, o_lenT, o_lenL, o_lenSc, o_tupS, o_tupL, o_tupT, o_ixT0, o_ixT1, o_ixT2, o_ixL0, o_ixL1, ty_str, sizeLine_eq, Nat.reduceLeDiff, Nat.zero_le, Nat.reduceLT, Int.reduceLT, Int.reduceLE, Int.reduceNeg, and_self, and_true, true_and, Int.reduceToNat]
    exact ⟨rfl, CutOk.refl, List.take_length⟩
theorem same_strs {l : List Str} {S : Store} (h : l.length ≤ 1000000) : m__law_same 4 [.tup (l.map W.str), .tup (l.map W.str)] S = .ok (.bl true) S :=
  same_tup (by simpa using h) fun x hx S => by
    obtain ⟨y, _, rfl⟩ := List.mem_map.mp hx
    exact same_str
theorem same_rows {l : List (List Str)} {S : Store} (h : l.length ≤ 1000000) (h2 : ∀ r ∈ l, r.length ≤ 1000000) : m__law_same 4 [.tup (l.map rowW), .tup (l.map rowW)] S = .ok (.bl true) S :=
  same_tup (by simpa using h) fun x hx S => by
    obtain ⟨y, hy, rfl⟩ := List.mem_map.mp hx
    refine same_tup (by simpa using h2 y hy) fun x hx S => ?_
    obtain ⟨y, _, rfl⟩ := List.mem_map.mp hx
    exact same_str
end Gen
namespace Gen
open PySem PySem.Spec PyProof.Rows L2 Eng
theorem ints_data (ns : List Int) : allData (ns.map W.int) = true := embI.datas ns
abbrev rowO (ns : List Int) : Ob := .lst (ns.map W.int)
theorem cut_row {ns ns' : List Int} {R : Store} : CutOk (rowO ns :: R) (rowO ns' :: R) := CutOk.cons (.inl (ints_data ns')) CutOk.refl
theorem take_ok {ns : List Int} {many : Int} {R : Store} {Q : W → Store → Prop} (hm : 0 < many) (h : ∀ (r : Nat) (ns' : List Int), (r : Int) < many → Q (.int (r : Nat)) (rowO ns' :: R)) : OkE (m__law_take [.ref 0, .int many] (rowO ns :: R)) Q := by
  unfold m__law_take fnRes b__law_take
  refine OkE.leave ?_
  have e0 : oNe (.ref 0) (.lst []) (rowO ns :: R) = .ok (.bl (!decide (ns = []))) (rowO ns :: R) := by
    unfold oNe
    rw [show eqS (rowO ns :: R) (.ref 0) (.lst []) = some (decide (ns = [])) from eqS_ref embI (by decide) ns [] rfl]
  simp -implicitDefEqProofs only [OkS.ret, OkS.seq, OkS.asg, OkS.exp, OkS.ite, OkS.skip, OkS.brk, OkS.cnt, OkS.for, OkS.while, OkE.bnd, OkE.toS, OkE.ok, OkE.nox, OkE.comp, OkS.nxt, OkS.rtn, mIf, mTest, mBin, mVar, mC, mCall, mCons, mNil, mStar, mSl, mPart, mNoPart, mMeth, mMeth0, mTup, mLst, mLstR, mNeg, mNot, mAnd, mOr, mAndV, mOrV, mNotV, mYes, mRng1, mWk, mEnum, mEnumZip, mZip, mFn, mPar, mPar3, mAug, mIsi, mExpr, gSet, gTupW, gConsW, gNilW, gPut, seqT, startW, wipeW, cName, cTup, cCons, cNil, oIntX, oInt, oAbs, oMin2, oGt, oGe, oLt, oLe, oMod, oFdiv, oSub, oIAdd, Res.bind_ok, Res.toS_ok, noX_okk, List.map_cons, List.map_nil, List.cons_append, List.nil_append, List.append_nil, List.getElem?_cons_zero, List.getElem?_cons_succ, List.set_cons_zero, List.set_cons_succ, List.length_cons, List.length_nil, List.replicate, Nat.reduceAdd, Nat.reduceSub, Nat.add_eq, Nat.add_zero, Nat.sub_self, if_true, if_false, Bool.false_eq_true, reduceIte, Option.getD_some, o_addI, o_slT, o_slS, o_slL, o_lenS, o_lenT, o_lenL, o_lenSc, o_tupS, o_tupL, o_tupT, o_ixT0, o_ixT1, o_ixT2, o_ixL0, o_ixL1, ty_str, sizeLine_eq, Nat.reduceLeDiff, Nat.zero_le, Nat.reduceLT, Int.reduceLT, Int.reduceLE, Int.reduceNeg, and_self, and_true, true_and, Int.reduceToNat, e0]
  rcases List.eq_nil_or_concat ns with hn | ⟨ms, x, hn⟩
  · subst hn
    simp -implicitDefEqProofs only [OkS.ret, OkS.seq, OkS.asg, OkS.exp, OkS.ite, OkS.skip, OkS.brk, OkS.cnt, OkS.for, OkS.while, OkE.bnd, OkE.toS, OkE.ok, OkE.nox, OkE.comp, OkS.nxt, OkS.rtn, mIf, mTest, mBin, mVar, mC, mCall, mCons, mNil, mStar, mSl, mPart, mNoPart, mMeth, mMeth0, mTup, mLst, mLstR, mNeg, mNot, mAnd, mOr, mAndV, mOrV, mNotV, mYes, mRng1, mWk, mEnum, mEnumZip, mZip, mFn, mPar, mPar3, mAug, mIsi, mExpr, gSet, gTupW, gConsW, gNilW, gPut, seqT, startW, wipeW, cName, cTup, cCons, cNil, oIntX, oInt, oAbs, oMin2, oGt, oGe, oLt, oLe, oMod, oFdiv, oSub, oIAdd, Res.bind_ok, Res.toS_ok, noX_okk, List.map_cons, List.map_nil, List.cons_append, List.nil_append, List.append_nil, List.getElem?_cons_zero, List.getElem?_cons_succ, List.set_cons_zero, List.set_cons_succ, List.length_cons, List.length_nil, List.replicate, Nat.reduceAdd, Nat.reduceSub, Nat.add_eq, Nat.add_zero, Nat.sub_self, if_true, if_false, Bool.false_eq_true, reduceIte, Option.getD_some, o_addI, o_slT, o_slS, o_slL, o_lenS, o_lenT, o_lenL, o_lenSc, o_tupS, o_tupL, o_tupT, o_ixT0, o_ixT1, o_ixT2, o_ixL0, o_ixL1, ty_str, sizeLine_eq, Nat.reduceLeDiff, Nat.zero_le, Nat.reduceLT, Int.reduceLT, Int.reduceLE, Int.reduceNeg, and_self, and_true, true_and, Int.reduceToNat, decide_true, Bool.not_true]
    refine ⟨rfl, CutOk.refl, ?_⟩
    rw [List.take_of_length_le (by simp)]
    exact h 0 [] hm
  · rw [List.concat_eq_append] at hn
    subst hn
    have hne : ¬ (ms ++ [x] = []) := by simp
    have epop : oPop (.ref 0) [] (rowO (ms ++ [x]) :: R) = .ok (.int x) (rowO ms :: R) := by
      rw [o_pop (xs := ms.map W.int) (x := .int x) (by simp)]
      rfl
    simp -implicitDefEqProofs only [OkS.ret, OkS.seq, OkS.asg, OkS.exp, OkS.ite, OkS.skip, OkS.brk, OkS.cnt, OkS.for, OkS.while, OkE.bnd, OkE.toS, OkE.ok, OkE.nox, OkE.comp, OkS.nxt, OkS.rtn, mIf, mTest, mBin, mVar, mC, mCall, mCons, mNil, mStar, mSl, mPart, mNoPart, mMeth, mMeth0, mTup, mLst, mLstR, mNeg, mNot, mAnd, mOr, mAndV, mOrV, mNotV, mYes, mRng1, mWk, mEnum, mEnumZip, mZip, mFn, mPar, mPar3, mAug, mIsi, mExpr, gSet, gTupW, gConsW, gNilW, gPut, seqT, startW, wipeW, cName, cTup, cCons, cNil, oIntX, oInt, oAbs, oMin2, oGt, oGe, oLt, oLe, oMod, oFdiv, oSub, oIAdd, Res.bind_ok, Res.toS_ok, noX_okk, List.map_cons, List.map_nil, List.cons_append, List.nil_append, List.append_nil, List.getElem?_cons_zero, List.getElem?_cons_succ, List.set_cons_zero, List.set_cons_succ, List.length_cons, List.length_nil, List.replicate, Nat.reduceAdd, Nat.reduceSub, Nat.add_eq, Nat.add_zero, Nat.sub_self, if_true, if_false, Bool.false_eq_true, reduceIte, Option.getD_some, o_addI, o_slT, o_slS, o_slL, o_lenS, o_lenT, o_lenL, o_lenSc, o_tupS, o_tupL, o_tupT, o_ixT0, o_ixT1, o_ixT2, o_ixL0, o_ixL1, ty_str, sizeLine_eq, Nat.reduceLeDiff, Nat.zero_le, Nat.reduceLT, Int.reduceLT, Int.reduceLE, Int.reduceNeg, and_self, and_true, true_and, Int.reduceToNat, hne, decide_false, Bool.not_false, ty_ref (S := rowO (ms ++ [x]) :: R) (n := 0) rfl, epop, if_pos hm]
    refine ⟨rfl, cut_row, ?_⟩
    have h1 := Int.emod_nonneg x (show many ≠ 0 by omega)
    have h2 := Int.emod_lt_of_pos x hm
    have := h (x % many).toNat ms (by omega)
    rw [show ((x % many).toNat : Int) = x % many by omega] at this
    rw [show (rowO ms :: R).take ((R.length) + 1) = rowO ms :: R from List.take_of_length_le (by simp)]
    exact this
theorem o_mulC {i j : Int} {S : Store} (h : -(2 ^ 64) < j ∧ j < 2 ^ 64) : oMul (.int i) (.int j) S = .ok (.int (i * j)) S := by
  unfold oMul
  simp only
  rw [if_pos (.inr h)]
theorem o_modC {i j : Int} {S : Store} (h : 0 < j) : oMod (.int i) (.int j) S = .ok (.int (i % j)) S := by
  unfold oMod
  simp only
  rw [if_pos h]
theorem o_fdivC {i j : Int} {S : Store} (h : 0 < j ∧ j < 1073741824) : oFdiv (.int i) (.int j) S = .ok (.int (i / j)) S := by
  unfold oFdiv
  simp only
  rw [if_pos h]
theorem o_pow {S : Store} : oPow (.int 10) (.int 18) S = .ok (.int (10 ^ 18)) S := by
  unfold oPow
  simp only
  rw [if_pos (by decide)]
  rfl
theorem o_appI {l : List Int} {x : Int} (h : l.length < 1000000) : oAppend (.ref 0) [.int x] [rowO l] = .ok .non [rowO (l ++ [x])] := by
  rw [o_app (xs := l.map W.int) rfl (by rw [List.length_map, sizeLine_eq]; omega)]
  simp [rowO]
theorem row_ok {ns : List Int} {many : Nat} {Q : W → Store → Prop} (hm : many ≤ 1000) (h : ∀ l : List Int, Q (.ref 0) [rowO l]) : OkE (m__law_row [.scr ns, .int (many : Nat)] []) Q := by
  unfold m__law_row fnKeep b__law_row
  refine OkE.keep ?_
  have ty0 : ∀ l, tyW "list" [rowO l] (.ref 0) = true := fun l => ty_ref (S := [rowO l]) (n := 0) rfl
  simp -implicitDefEqProofs only [OkS.ret, OkS.seq, OkS.asg, OkS.exp, OkS.ite, OkS.skip, OkS.brk, OkS.cnt, OkS.for, OkS.while, OkE.bnd, OkE.toS, OkE.ok, OkE.nox, OkE.comp, OkS.nxt, OkS.rtn, mIf, mTest, mBin, mVar, mC, mCall, mCons, mNil, mStar, mSl, mPart, mNoPart, mMeth, mMeth0, mTup, mLst, mLstR, mNeg, mNot, mAnd, mOr, mAndV, mOrV, mNotV, mYes, mRng1, mWk, mEnum, mEnumZip, mZip, mFn, mPar, mPar3, mAug, mIsi, mExpr, gSet, gTupW, gConsW, gNilW, gPut, seqT, startW, wipeW, cName, cTup, cCons, cNil, oIntX, oInt, oAbs, oMin2, oGt, oGe, oLt, oLe, oMod, oFdiv, oSub, oIAdd, Res.bind_ok, Res.toS_ok, noX_okk, List.map_cons, List.map_nil, List.cons_append, List.nil_append, List.append_nil, List.getElem?_cons_zero, List.getElem?_cons_succ, List.set_cons_zero, List.set_cons_succ, List.length_cons, List.length_nil, List.replicate, Nat.reduceAdd, Nat.reduceSub, Nat.add_eq, Nat.add_zero, Nat.sub_self, if_true, if_false, Bool.false_eq_true, reduceIte, Option.getD_some, o_addI, o_slT, o_slS, o_slL, o_lenS, o_lenT, o_lenL, o_lenSc, o_tupS, o_tupL, o_tupT, o_ixT0, o_ixT1, o_ixT2, o_ixL0, o_ixL1, ty_str, sizeLine_eq, Nat.reduceLeDiff, Nat.zero_le, Nat.reduceLT, Int.reduceLT, Int.reduceLE, Int.reduceNeg, and_self, and_true, true_and, Int.reduceToNat]
  rw [if_pos (by omega), OkE.ok, show ((many : Nat) : Int).toNat = many by omega, rangeW_map]
  refine for_map (fun pre τ S => ∃ (l : List Int) (rest mixed : Int) (at_ : Int) (x6 x7 : Option W), τ = [some (W.scr ns), some (W.int (many : Nat)), some (W.ref 0), some (W.int rest), some (W.int at_), some (W.int mixed), x6, x7] ∧ S = [rowO l] ∧ 0 ≤ at_ ∧ l.length = pre.length) ⟨[], _, _, _, _, _, rfl, rfl, Int.le_refl _, rfl⟩ ?_ ?_
  · rintro pre k post τ S e ⟨l, rest, mixed, at_, x6, x7, rfl, rfl, h0, hl⟩
    have hlen : l.length < 1000000 := by
      have h9 := congrArg List.length e
      rw [List.length_range, List.length_append, List.length_cons] at h9
      omega
    generalize hkk : W.int ((k : Nat) : Int) = wk
    obtain ⟨kk, rfl⟩ : ∃ kk : Int, wk = .int kk := ⟨_, hkk.symm⟩
    clear hkk
    simp -implicitDefEqProofs only [OkS.ret, OkS.seq, OkS.asg, OkS.exp, OkS.ite, OkS.skip, OkS.brk, OkS.cnt, OkS.for, OkS.while, OkE.bnd, OkE.toS, OkE.ok, OkE.nox, OkE.comp, OkS.nxt, OkS.rtn, mIf, mTest, mBin, mVar, mC, mCall, mCons, mNil, mStar, mSl, mPart, mNoPart, mMeth, mMeth0, mTup, mLst, mLstR, mNeg, mNot, mAnd, mOr, mAndV, mOrV, mNotV, mYes, mRng1, mWk, mEnum, mEnumZip, mZip, mFn, mPar, mPar3, mAug, mIsi, mExpr, gSet, gTupW, gConsW, gNilW, gPut, seqT, startW, wipeW, cName, cTup, cCons, cNil, oIntX, oInt, oAbs, oMin2, oGt, oGe, oLt, oLe, oMod, oFdiv, oSub, oIAdd, Res.bind_ok, Res.toS_ok, noX_okk, List.map_cons, List.map_nil, List.cons_append, List.nil_append, List.append_nil, List.getElem?_cons_zero, List.getElem?_cons_succ, List.set_cons_zero, List.set_cons_succ, List.length_cons, List.length_nil, List.replicate, Nat.reduceAdd, Nat.reduceSub, Nat.add_eq, Nat.add_zero, Nat.sub_self, if_true, if_false, Bool.false_eq_true, reduceIte, Option.getD_some, o_addI, o_slT, o_slS, o_slL, o_lenS, o_lenT, o_lenL, o_lenSc, o_tupS, o_tupL, o_tupT, o_ixT0, o_ixT1, o_ixT2, o_ixL0, o_ixL1, ty_str, sizeLine_eq, Nat.reduceLeDiff, Nat.zero_le, Nat.reduceLT, Int.reduceLT, Int.reduceLE, Int.reduceNeg, and_self, and_true, true_and, Int.reduceToNat]
    by_cases h1 : 0 < rest
    · simp -implicitDefEqProofs only [OkS.ret, OkS.seq, OkS.asg, OkS.exp, OkS.ite, OkS.skip, OkS.brk, OkS.cnt, OkS.for, OkS.while, OkE.bnd, OkE.toS, OkE.ok, OkE.nox, OkE.comp, OkS.nxt, OkS.rtn, mIf, mTest, mBin, mVar, mC, mCall, mCons, mNil, mStar, mSl, mPart, mNoPart, mMeth, mMeth0, mTup, mLst, mLstR, mNeg, mNot, mAnd, mOr, mAndV, mOrV, mNotV, mYes, mRng1, mWk, mEnum, mEnumZip, mZip, mFn, mPar, mPar3, mAug, mIsi, mExpr, gSet, gTupW, gConsW, gNilW, gPut, seqT, startW, wipeW, cName, cTup, cCons, cNil, oIntX, oInt, oAbs, oMin2, oGt, oGe, oLt, oLe, oMod, oFdiv, oSub, oIAdd, Res.bind_ok, Res.toS_ok, noX_okk, List.map_cons, List.map_nil, List.cons_append, List.nil_append, List.append_nil, List.getElem?_cons_zero, List.getElem?_cons_succ, List.set_cons_zero, List.set_cons_succ, List.length_cons, List.length_nil, List.replicate, Nat.reduceAdd, Nat.reduceSub, Nat.add_eq, Nat.add_zero, Nat.sub_self, if_true, if_false, Bool.false_eq_true, reduceIte, Option.getD_some, o_addI, o_slT, o_slS, o_slL, o_lenS, o_lenT, o_lenL, o_lenSc, o_tupS, o_tupL, o_tupT, o_ixT0, o_ixT1, o_ixT2, o_ixL0, o_ixL1, ty_str, sizeLine_eq, Nat.reduceLeDiff, Nat.zero_le, Nat.reduceLT, Int.reduceLT, Int.reduceLE, Int.reduceNeg, and_self, and_true, true_and, Int.reduceToNat, h1, decide_true, ty0, o_appI hlen]
      exact ⟨_, _, _, _, _, _, rfl, rfl, h0, by simp [hl]⟩
    · simp -implicitDefEqProofs only [OkS.ret, OkS.seq, OkS.asg, OkS.exp, OkS.ite, OkS.skip, OkS.brk, OkS.cnt, OkS.for, OkS.while, OkE.bnd, OkE.toS, OkE.ok, OkE.nox, OkE.comp, OkS.nxt, OkS.rtn, mIf, mTest, mBin, mVar, mC, mCall, mCons, mNil, mStar, mSl, mPart, mNoPart, mMeth, mMeth0, mTup, mLst, mLstR, mNeg, mNot, mAnd, mOr, mAndV, mOrV, mNotV, mYes, mRng1, mWk, mEnum, mEnumZip, mZip, mFn, mPar, mPar3, mAug, mIsi, mExpr, gSet, gTupW, gConsW, gNilW, gPut, seqT, startW, wipeW, cName, cTup, cCons, cNil, oIntX, oInt, oAbs, oMin2, oGt, oGe, oLt, oLe, oMod, oFdiv, oSub, oIAdd, Res.bind_ok, Res.toS_ok, noX_okk, List.map_cons, List.map_nil, List.cons_append, List.nil_append, List.append_nil, List.getElem?_cons_zero, List.getElem?_cons_succ, List.set_cons_zero, List.set_cons_succ, List.length_cons, List.length_nil, List.replicate, Nat.reduceAdd, Nat.reduceSub, Nat.add_eq, Nat.add_zero, Nat.sub_self, if_true, if_false, Bool.false_eq_true, reduceIte, Option.getD_some, o_addI, o_slT, o_slS, o_slL, o_lenS, o_lenT, o_lenL, o_lenSc, o_tupS, o_tupL, o_tupT, o_ixT0, o_ixT1, o_ixT2, o_ixL0, o_ixL1, ty_str, sizeLine_eq, Nat.reduceLeDiff, Nat.zero_le, Nat.reduceLT, Int.reduceLT, Int.reduceLE, Int.reduceNeg, and_self, and_true, true_and, Int.reduceToNat, h1, decide_false]
      by_cases h2 : at_ < (if (ns.length : Int) < 63 then (ns.length : Int) else 63)
      · have hat : at_.toNat < ns.length := by
          split at h2 <;> omega
        have ei : ∀ S, oIx (.scr ns) (.int at_) S = .ok (.int ns[at_.toNat]) S := fun S => o_ixSc (by rw [atI_pos h0, List.getElem?_eq_getElem hat])
        simp -implicitDefEqProofs only [OkS.ret, OkS.seq, OkS.asg, OkS.exp, OkS.ite, OkS.skip, OkS.brk, OkS.cnt, OkS.for, OkS.while, OkE.bnd, OkE.toS, OkE.ok, OkE.nox, OkE.comp, OkS.nxt, OkS.rtn, mIf, mTest, mBin, mVar, mC, mCall, mCons, mNil, mStar, mSl, mPart, mNoPart, mMeth, mMeth0, mTup, mLst, mLstR, mNeg, mNot, mAnd, mOr, mAndV, mOrV, mNotV, mYes, mRng1, mWk, mEnum, mEnumZip, mZip, mFn, mPar, mPar3, mAug, mIsi, mExpr, gSet, gTupW, gConsW, gNilW, gPut, seqT, startW, wipeW, cName, cTup, cCons, cNil, oIntX, oInt, oAbs, oMin2, oGt, oGe, oLt, oLe, oMod, oFdiv, oSub, oIAdd, Res.bind_ok, Res.toS_ok, noX_okk, List.map_cons, List.map_nil, List.cons_append, List.nil_append, List.append_nil, List.getElem?_cons_zero, List.getElem?_cons_succ, List.set_cons_zero, List.set_cons_succ, List.length_cons, List.length_nil, List.replicate, Nat.reduceAdd, Nat.reduceSub, Nat.add_eq, Nat.add_zero, Nat.sub_self, if_true, if_false, Bool.false_eq_true, reduceIte, Option.getD_some, o_addI, o_slT, o_slS, o_slL, o_lenS, o_lenT, o_lenL, o_lenSc, o_tupS, o_tupL, o_tupT, o_ixT0, o_ixT1, o_ixT2, o_ixL0, o_ixL1, ty_str, sizeLine_eq, Nat.reduceLeDiff, Nat.zero_le, Nat.reduceLT, Int.reduceLT, Int.reduceLE, Int.reduceNeg, and_self, and_true, true_and, Int.reduceToNat, h2, decide_true, ei]
        generalize (if ns[at_.toNat] < 0 then -ns[at_.toNat] else ns[at_.toNat]) = cell
        simp only [o_mulC (show -(2 ^ 64 : Int) < 69621 ∧ (69621 : Int) < 2 ^ 64 by omega), o_mulC (show -(2 ^ 64 : Int) < 48271 ∧ (48271 : Int) < 2 ^ 64 by omega), o_mulC (show -(2 ^ 64 : Int) < 6007 ∧ (6007 : Int) < 2 ^ 64 by omega), OkS.ret, OkS.seq, OkS.asg, OkS.exp, OkS.ite, OkS.skip, OkS.brk, OkS.cnt, OkS.for, OkS.while, OkE.bnd, OkE.toS, OkE.ok, OkE.nox, OkE.comp, OkS.nxt, OkS.rtn, mIf, mTest, mBin, mVar, mC, mCall, mCons, mNil, mStar, mSl, mPart, mNoPart, mMeth, mMeth0, mTup, mLst, mLstR, mNeg, mNot, mAnd, mOr, mAndV, mOrV, mNotV, mYes, mRng1, mWk, mEnum, mEnumZip, mZip, mFn, mPar, mPar3, mAug, mIsi, mExpr, gSet, gTupW, gConsW, gNilW, gPut, seqT, startW, wipeW, cName, cTup, cCons, cNil, oIntX, oInt, oAbs, oMin2, oGt, oGe, oLt, oLe, oMod, oFdiv, oSub, oIAdd, Res.bind_ok, Res.toS_ok, noX_okk, List.map_cons, List.map_nil, List.cons_append, List.nil_append, List.append_nil, List.getElem?_cons_zero, List.getElem?_cons_succ, List.set_cons_zero, List.set_cons_succ, List.length_cons, List.length_nil, List.replicate, Nat.reduceAdd, Nat.reduceSub, Nat.add_eq, Nat.add_zero, Nat.sub_self, if_true, if_false, Bool.false_eq_true, reduceIte, Option.getD_some, o_addI, o_slT, o_slS, o_slL, o_lenS, o_lenT, o_lenL, o_lenSc, o_tupS, o_tupL, o_tupT, o_ixT0, o_ixT1, o_ixT2, o_ixL0, o_ixL1, ty_str, sizeLine_eq, Nat.reduceLeDiff, Nat.zero_le, Nat.reduceLT, Int.reduceLT, Int.reduceLE, Int.reduceNeg, and_self, and_true, true_and, Int.reduceToNat, ty0, o_appI hlen, o_pow]
        by_cases h3 : (10 : Int) ^ 18 ≤ cell
        · have ep : ∀ (x y : Int), putS (.ref 0) (.int (-1)) (.int y) [rowO (l ++ [x])] = some [rowO (l ++ [y])] := fun x y => by
            unfold putS
            simp only [List.getElem?_cons_zero]
            have : ixN (List.map W.int (l ++ [x])).length (-1) = some l.length := by
              unfold ixN
              rw [if_neg (by omega), if_pos (by simp; omega)]
              congr 1
              simp
              omega
            rw [this]
            simp [rowO]
          simp -implicitDefEqProofs only [OkS.ret, OkS.seq, OkS.asg, OkS.exp, OkS.ite, OkS.skip, OkS.brk, OkS.cnt, OkS.for, OkS.while, OkE.bnd, OkE.toS, OkE.ok, OkE.nox, OkE.comp, OkS.nxt, OkS.rtn, mIf, mTest, mBin, mVar, mC, mCall, mCons, mNil, mStar, mSl, mPart, mNoPart, mMeth, mMeth0, mTup, mLst, mLstR, mNeg, mNot, mAnd, mOr, mAndV, mOrV, mNotV, mYes, mRng1, mWk, mEnum, mEnumZip, mZip, mFn, mPar, mPar3, mAug, mIsi, mExpr, gSet, gTupW, gConsW, gNilW, gPut, seqT, startW, wipeW, cName, cTup, cCons, cNil, oIntX, oInt, oAbs, oMin2, oGt, oGe, oLt, oLe, oMod, oFdiv, oSub, oIAdd, Res.bind_ok, Res.toS_ok, noX_okk, List.map_cons, List.map_nil, List.cons_append, List.nil_append, List.append_nil, List.getElem?_cons_zero, List.getElem?_cons_succ, List.set_cons_zero, List.set_cons_succ, List.length_cons, List.length_nil, List.replicate, Nat.reduceAdd, Nat.reduceSub, Nat.add_eq, Nat.add_zero, Nat.sub_self, if_true, if_false, Bool.false_eq_true, reduceIte, Option.getD_some, o_addI, o_slT, o_slS, o_slL, o_lenS, o_lenT, o_lenL, o_lenSc, o_tupS, o_tupL, o_tupT, o_ixT0, o_ixT1, o_ixT2, o_ixL0, o_ixL1, ty_str, sizeLine_eq, Nat.reduceLeDiff, Nat.zero_le, Nat.reduceLT, Int.reduceLT, Int.reduceLE, Int.reduceNeg, and_self, and_true, true_and, Int.reduceToNat, h3, decide_true, ep]
          exact ⟨_, _, _, _, _, _, rfl, rfl, by omega, by simp [hl]⟩
        · simp -implicitDefEqProofs only [OkS.ret, OkS.seq, OkS.asg, OkS.exp, OkS.ite, OkS.skip, OkS.brk, OkS.cnt, OkS.for, OkS.while, OkE.bnd, OkE.toS, OkE.ok, OkE.nox, OkE.comp, OkS.nxt, OkS.rtn, mIf, mTest, mBin, mVar, mC, mCall, mCons, mNil, mStar, mSl, mPart, mNoPart, mMeth, mMeth0, mTup, mLst, mLstR, mNeg, mNot, mAnd, mOr, mAndV, mOrV, mNotV, mYes, mRng1, mWk, mEnum, mEnumZip, mZip, mFn, mPar, mPar3, mAug, mIsi, mExpr, gSet, gTupW, gConsW, gNilW, gPut, seqT, startW, wipeW, cName, cTup, cCons, cNil, oIntX, oInt, oAbs, oMin2, oGt, oGe, oLt, oLe, oMod, oFdiv, oSub, oIAdd, Res.bind_ok, Res.toS_ok, noX_okk, List.map_cons, List.map_nil, List.cons_append, List.nil_append, List.append_nil, List.getElem?_cons_zero, List.getElem?_cons_succ, List.set_cons_zero, List.set_cons_succ, List.length_cons, List.length_nil, List.replicate, Nat.reduceAdd, Nat.reduceSub, Nat.add_eq, Nat.add_zero, Nat.sub_self, if_true, if_false, Bool.false_eq_true, reduceIte, Option.getD_some, o_addI, o_slT, o_slS, o_slL, o_lenS, o_lenT, o_lenL, o_lenSc, o_tupS, o_tupL, o_tupT, o_ixT0, o_ixT1, o_ixT2, o_ixL0, o_ixL1, ty_str, sizeLine_eq, Nat.reduceLeDiff, Nat.zero_le, Nat.reduceLT, Int.reduceLT, Int.reduceLE, Int.reduceNeg, and_self, and_true, true_and, Int.reduceToNat, h3, decide_false]
          exact ⟨_, _, _, _, _, _, rfl, rfl, by omega, by simp [hl]⟩
      · simp -implicitDefEqProofs only [OkS.ret, OkS.seq, OkS.asg, OkS.exp, OkS.ite, OkS.skip, OkS.brk, OkS.cnt, OkS.for, OkS.while, OkE.bnd, OkE.toS, OkE.ok, OkE.nox, OkE.comp, OkS.nxt, OkS.rtn, mIf, mTest, mBin, mVar, mC, mCall, mCons, mNil, mStar, mSl, mPart, mNoPart, mMeth, mMeth0, mTup, mLst, mLstR, mNeg, mNot, mAnd, mOr, mAndV, mOrV, mNotV, mYes, mRng1, mWk, mEnum, mEnumZip, mZip, mFn, mPar, mPar3, mAug, mIsi, mExpr, gSet, gTupW, gConsW, gNilW, gPut, seqT, startW, wipeW, cName, cTup, cCons, cNil, oIntX, oInt, oAbs, oMin2, oGt, oGe, oLt, oLe, oMod, oFdiv, oSub, oIAdd, Res.bind_ok, Res.toS_ok, noX_okk, List.map_cons, List.map_nil, List.cons_append, List.nil_append, List.append_nil, List.getElem?_cons_zero, List.getElem?_cons_succ, List.set_cons_zero, List.set_cons_succ, List.length_cons, List.length_nil, List.replicate, Nat.reduceAdd, Nat.reduceSub, Nat.add_eq, Nat.add_zero, Nat.sub_self, if_true, if_false, Bool.false_eq_true, reduceIte, Option.getD_some, o_addI, o_slT, o_slS, o_slL, o_lenS, o_lenT, o_lenL, o_lenSc, o_tupS, o_tupL, o_tupT, o_ixT0, o_ixT1, o_ixT2, o_ixL0, o_ixL1, ty_str, sizeLine_eq, Nat.reduceLeDiff, Nat.zero_le, Nat.reduceLT, Int.reduceLT, Int.reduceLE, Int.reduceNeg, and_self, and_true, true_and, Int.reduceToNat, h2, decide_false, o_mulC (show -(2 ^ 64 : Int) < 48271 ∧ (48271 : Int) < 2 ^ 64 by omega), o_mulC (show -(2 ^ 64 : Int) < 13 ∧ (13 : Int) < 2 ^ 64 by omega), ty0, o_appI hlen]
        exact ⟨_, _, _, _, _, _, rfl, rfl, h0, by simp [hl]⟩
  · rintro τ S ⟨l, rest, mixed, at_, x6, x7, rfl, rfl, h0, hl⟩
    simp -implicitDefEqProofs only [OkS.ret, OkS.seq, OkS.asg, OkS.exp, OkS.ite, OkS.skip, OkS.brk, OkS.cnt, OkS.for, OkS.while, OkE.bnd, OkE.toS, OkE.ok, OkE.nox, OkE.comp, OkS.nxt, OkS.rtn, mIf, mTest, mBin, mVar, mC, mCall, mCons, mNil, mStar, mSl, mPart, mNoPart, mMeth, mMeth0, mTup, mLst, mLstR, mNeg, mNot, mAnd, mOr, mAndV, mOrV, mNotV, mYes, mRng1, mWk, mEnum, mEnumZip, mZip, mFn, mPar, mPar3, mAug, mIsi, mExpr, gSet, gTupW, gConsW, gNilW, gPut, seqT, startW, wipeW, cName, cTup, cCons, cNil, oIntX, oInt, oAbs, oMin2, oGt, oGe, oLt, oLe, oMod, oFdiv, oSub, oIAdd, Res.bind_ok, Res.toS_ok, noX_okk, List.map_cons, List.map_nil, List.cons_append, List.nil_append, List.append_nil, List.getElem?_cons_zero, List.getElem?_cons_succ, List.set_cons_zero, List.set_cons_succ, List.length_cons, List.length_nil, List.replicate, Nat.reduceAdd, Nat.reduceSub, Nat.add_eq, Nat.add_zero, Nat.sub_self, if_true, if_false, Bool.false_eq_true, reduceIte, Option.getD_some, o_addI, o_slT, o_slS, o_slL, o_lenS, o_lenT, o_lenL, o_lenSc, o_tupS, o_tupL, o_tupT, o_ixT0, o_ixT1, o_ixT2, o_ixL0, o_ixL1, ty_str, sizeLine_eq, Nat.reduceLeDiff, Nat.zero_le, Nat.reduceLT, Int.reduceLT, Int.reduceLE, Int.reduceNeg, and_self, and_true, true_and, Int.reduceToNat, ty0]
    rw [o_rev (xs := l.map W.int) rfl]
    simp -implicitDefEqProofs only [OkS.ret, OkS.seq, OkS.asg, OkS.exp, OkS.ite, OkS.skip, OkS.brk, OkS.cnt, OkS.for, OkS.while, OkE.bnd, OkE.toS, OkE.ok, OkE.nox, OkE.comp, OkS.nxt, OkS.rtn, mIf, mTest, mBin, mVar, mC, mCall, mCons, mNil, mStar, mSl, mPart, mNoPart, mMeth, mMeth0, mTup, mLst, mLstR, mNeg, mNot, mAnd, mOr, mAndV, mOrV, mNotV, mYes, mRng1, mWk, mEnum, mEnumZip, mZip, mFn, mPar, mPar3, mAug, mIsi, mExpr, gSet, gTupW, gConsW, gNilW, gPut, seqT, startW, wipeW, cName, cTup, cCons, cNil, oIntX, oInt, oAbs, oMin2, oGt, oGe, oLt, oLe, oMod, oFdiv, oSub, oIAdd, Res.bind_ok, Res.toS_ok, noX_okk, List.map_cons, List.map_nil, List.cons_append, List.nil_append, List.append_nil, List.getElem?_cons_zero, List.getElem?_cons_succ, List.set_cons_zero, List.set_cons_succ, List.length_cons, List.length_nil, List.replicate, Nat.reduceAdd, Nat.reduceSub, Nat.add_eq, Nat.add_zero, Nat.sub_self, if_true, if_false, Bool.false_eq_true, reduceIte, Option.getD_some, o_addI, o_slT, o_slS, o_slL, o_lenS, o_lenT, o_lenL, o_lenSc, o_tupS, o_tupL, o_tupT, o_ixT0, o_ixT1, o_ixT2, o_ixL0, o_ixL1, ty_str, sizeLine_eq, Nat.reduceLeDiff, Nat.zero_le, Nat.reduceLT, Int.reduceLT, Int.reduceLE, Int.reduceNeg, and_self, and_true, true_and, Int.reduceToNat]
    have := h l.reverse
    simpa [rowO, List.map_reverse] using this
end Gen
namespace Gen
open PySem PySem.Spec PyProof.Rows L2 Eng
theorem OkS.cut {f g : FS} {τ : ASt} {S : Store} {D : Pd} (M : ASt → Store → Prop) (h : OkS (f τ S) { nx := M, rt := D.rt, bk := D.bk, ct := D.ct }) (k : ∀ τ S, M τ S → OkS (g τ S) D) : OkS (mSeq f g τ S) D := by
  rw [OkS.seq]
  exact h.imp (fun τ S m => k τ S m) (fun _ _ z => z) (fun _ _ z => z) fun _ _ z => z
def notIn (s p : Str) : Bool := (Builtin.Str.occurrences p s 0 p.length 1).isEmpty
def plans : List Str := ["*","0.0","*","0.0 00.0","0.1 1.0 01.01","0.0 0.00","*","0.1 1.0 10.10","0.0 00.00 00.0","1.0 0.1 10.1","1.2 0.1 01.2 0.12","1.1 11.11 0.1111","01.2 0.1","0.1 1.2 01.2 0.12","3.0 2.3 1.2 0.1","","0.1 01.2 012.3","00.0 0.0","0.1 01.01 0101.0101","1.2 0.1 01.2","1.2 0.1 01.2 01.01","*","0.1 1.0 0.10 01.0","1.0 1.10 0.110","2.1 1.0 0.2 0.21"]
def partOk (k : Nat) (w : Str) : Bool := decide (w.length ≤ 4) && (signsS w).all fun s => match PySem.intText? s with
  | some n => decide (0 ≤ n) && decide (n < k) && decide (s.length ≤ 640)
  | none => false
def wordOk (k : Nat) (w : Str) : Bool := decide (w = "*") || (decide (w.length ≤ 100) && (Txt.split w ".").all okS && match Txt.split w "." with
  | [a, b] => partOk k a && partOk k b
  | _ => false)
def planOk (k : Nat) (p : Str) : Bool := decide (p.length ≤ 100) && (Txt.words p).all okS && decide ((Txt.words p).length ≤ 6) && (Txt.words p).all (wordOk k)
def plansOf (k : Nat) : List Str := (signsS (cutS "0123" (some (k : Int)) none)).foldl (fun ps s => ps.filter (notIn s)) plans
theorem plans_ok : ∀ k ∈ [1, 2, 3, 4], (plansOf k).all (planOk k) = true ∧ plansOf k ≠ [] := by decide +kernel
structure NameOk (name : Str) : Prop where
  ok : okS name = true
  mem : name.length ∈ [1, 2, 3, 4]
theorem sign_good {c : Nat} (h : c < 0x110000) : Good ⟨#[c]⟩ := ⟨by rw [okS_iff]; exact ⟨fun d hd => by simp at hd; omega, by rw [sizeLine_eq]; show (#[c] : Array Nat).size ≤ _; simp⟩, by show (#[c] : Array Nat).size ≤ _; simp⟩
theorem NameOk.at {name : Str} (h : NameOk name) {k : Nat} (hk : k < name.length) : ∃ x, Good x ∧ x.length = 1 ∧ ∀ S, oIx (.str name) (.int (k : Nat)) S = .ok (.str x) S := by
  have hk' : k < name.cps.toList.length := hk
  have hc := (okS_iff.mp h.ok).1 name.cps.toList[k] (List.getElem_mem hk')
  exact ⟨⟨#[name.cps.toList[k]]⟩, sign_good hc, rfl, fun S => o_ixS (by rw [atI_n, List.getElem?_eq_getElem hk'])⟩
theorem join0_good {l : List Str} (h : ∀ x ∈ l, Good x ∧ x.length = 1) (hl : l.length ≤ 8) : Good (Str.join "" l) ∧ ∀ S, oJoin (.str "") [.lst (l.map W.str)] S = .ok (.str (Str.join "" l)) S := by
  have hs : (l.map (·.length)).sum = l.length := by
    have := sum_const (f := fun x : Str => x.length) (c := 1) (l := l) fun x hx => (h x hx).2
    rw [this, Nat.mul_one]
  have h0 : ("" : Str).length = 0 := rfl
  have hj := join_len "" l
  rw [hs, h0, Nat.mul_zero, Nat.add_zero] at hj
  refine ⟨⟨?_, by omega⟩, fun S => ?_⟩
  · rw [okS_iff]
    refine ⟨fun c hc => ?_, by rw [sizeLine_eq]; omega⟩
    rcases join_cps "" l c hc with z | ⟨y, hy, z⟩
    · have : ("" : Str).cps.toList = [] := rfl
      rw [this] at z
      cases z
    · exact (okS_iff.mp (h y hy).1.ok).1 c z
  · unfold oJoin
    simp only [seqT, seqL]
    rw [strsW_of]
    simp only
    rw [if_pos (by rw [hs, h0, Nat.mul_zero]; omega)]
theorem signs_len (w : Str) : (signsS w).length = w.length := by
  unfold signsS
  rw [List.length_map]
  rfl
theorem int_str {s : Str} {n : Int} {S : Store} (h : PySem.intText? s = some n) (hl : s.length ≤ 640) : oIntX [.str s] S = .ok (.int n) S := by
  unfold oIntX
  simp only
  rw [if_pos hl, h]
theorem word_eq {name w : Str} {S : Store} (hn : NameOk name) (hw : partOk name.length w = true) : ∃ x, Good x ∧ m__law_word [.str w, .str name] S = .ok (.str x) S := by
  unfold partOk at hw
  simp only [Bool.and_eq_true, decide_eq_true_eq, List.all_eq_true] at hw
  obtain ⟨hl, hs⟩ := hw
  have hs2 : ∀ s : Str, ∃ x : Str, s ∈ signsS w → (Good x ∧ x.length = 1) ∧ ∀ S, ∃ n : Int, oIntX [.str s] S = .ok (.int n) S ∧ oIx (.str name) (.int n) S = .ok (.str x) S := fun s => by
    by_cases h : s ∈ signsS w
    · have h1 := hs s h
      cases e : PySem.intText? s with
      | none => rw [e] at h1; cases h1
      | some n =>
        rw [e] at h1
        simp only [Bool.and_eq_true, decide_eq_true_eq] at h1
        obtain ⟨⟨h2, h3⟩, h4⟩ := h1
        obtain ⟨k, rfl⟩ := Int.eq_ofNat_of_zero_le h2
        obtain ⟨x, hx, hx1, ex⟩ := hn.at (show k < name.length by omega)
        exact ⟨x, fun _ => ⟨⟨hx, hx1⟩, fun S => ⟨_, int_str e h4, ex S⟩⟩⟩
    · exact ⟨"", fun z => absurd z h⟩
  let g : Str → Str := fun s => (hs2 s).choose
  have hg : ∀ s ∈ signsS w, (Good (g s) ∧ (g s).length = 1) ∧ ∀ S, ∃ n : Int, oIntX [.str s] S = .ok (.int n) S ∧ oIx (.str name) (.int n) S = .ok (.str (g s)) S := fun s h => (hs2 s).choose_spec h
  obtain ⟨j1, j2⟩ := join0_good (l := (signsS w).map g) (fun x hx => by
    obtain ⟨s, hs, rfl⟩ := List.mem_map.mp hx
    exact (hg s hs).1) (by rw [List.length_map, signs_len]; omega)
  refine ⟨_, j1, OkE.eqv ?_⟩
  unfold m__law_word fnRes b__law_word
  refine OkE.leave ?_
  simp -implicitDefEqProofs only [OkS.ret, OkS.seq, OkS.asg, OkS.exp, OkS.ite, OkS.skip, OkS.brk, OkS.cnt, OkS.for, OkS.while, OkE.bnd, OkE.toS, OkE.ok, OkE.nox, OkE.comp, OkS.nxt, OkS.rtn, mIf, mTest, mBin, mVar, mC, mCall, mCons, mNil, mStar, mSl, mPart, mNoPart, mMeth, mMeth0, mTup, mLst, mLstR, mNeg, mNot, mAnd, mOr, mAndV, mOrV, mNotV, mYes, mRng1, mWk, mEnum, mEnumZip, mZip, mFn, mPar, mPar3, mAug, mIsi, mExpr, gSet, gTupW, gConsW, gNilW, gPut, seqT, startW, wipeW, cName, cTup, cCons, cNil, oIntX, oInt, oAbs, oMin2, oGt, oGe, oLt, oLe, oMod, oFdiv, oSub, oIAdd, Res.bind_ok, Res.toS_ok, noX_okk, List.map_cons, List.map_nil, List.cons_append, List.nil_append, List.append_nil, List.getElem?_cons_zero, List.getElem?_cons_succ, List.set_cons_zero, List.set_cons_succ, List.length_cons, List.length_nil, List.replicate, Nat.reduceAdd, Nat.reduceSub, Nat.add_eq, Nat.add_zero, Nat.sub_self, if_true, if_false, Bool.false_eq_true, reduceIte, Option.getD_some, o_addI, o_slT, o_slS, o_slL, o_lenS, o_lenT, o_lenL, o_lenSc, o_tupS, o_tupL, o_tupT, o_ixT0, o_ixT1, o_ixT2, o_ixL0, o_ixL1, ty_str, sizeLine_eq, Nat.reduceLeDiff, Nat.zero_le, Nat.reduceLT, Int.reduceLT, Int.reduceLE, Int.reduceNeg, and_self, and_true, true_and, Int.reduceToNat]
  unfold signsW
  refine comp_pure (fun _ => true) (fun s => W.str (g s)) (by rw [signs_len, sizeLine_eq]; omega) (fun s hs => ⟨[some (.str w), some (.str name), some (.str s)], by simp -implicitDefEqProofs only [OkS.ret, OkS.seq, OkS.asg, OkS.exp, OkS.ite, OkS.skip, OkS.brk, OkS.cnt, OkS.for, OkS.while, OkE.bnd, OkE.toS, OkE.ok, OkE.nox, OkE.comp, OkS.nxt, OkS.rtn, mIf, mTest, mBin, mVar, mC, mCall, mCons, mNil, mStar, mSl, mPart, mNoPart, mMeth, mMeth0, mTup, mLst, mLstR, mNeg, mNot, mAnd, mOr, mAndV, mOrV, mNotV, mYes, mRng1, mWk, mEnum, mEnumZip, mZip, mFn, mPar, mPar3, mAug, mIsi, mExpr, gSet, gTupW, gConsW, gNilW, gPut, seqT, startW, wipeW, cName, cTup, cCons, cNil, oIntX, oInt, oAbs, oMin2, oGt, oGe, oLt, oLe, oMod, oFdiv, oSub, oIAdd, Res.bind_ok, Res.toS_ok, noX_okk, List.map_cons, List.map_nil, List.cons_append, List.nil_append, List.append_nil, List.getElem?_cons_zero, List.getElem?_cons_succ, List.set_cons_zero, List.set_cons_succ, List.length_cons, List.length_nil, List.replicate, Nat.reduceAdd, Nat.reduceSub, Nat.add_eq, Nat.add_zero, Nat.sub_self, if_true, if_false, Bool.false_eq_true, reduceIte, Option.getD_some, o_addI, o_slT, o_slS, o_slL, o_lenS, o_lenT, o_lenL, o_lenSc, o_tupS, o_tupL, o_tupT, o_ixT0, o_ixT1, o_ixT2, o_ixL0, o_ixL1, ty_str, sizeLine_eq, Nat.reduceLeDiff, Nat.zero_le, Nat.reduceLT, Int.reduceLT, Int.reduceLE, Int.reduceNeg, and_self, and_true, true_and, Int.reduceToNat], rfl, fun _ => ?_⟩) ?_
  · obtain ⟨n, e1, e2⟩ := (hg s hs).2 S
    simp only [mBin, mVar, mCall, mCons, mNil, List.getElem?_cons_succ, List.getElem?_cons_zero, Res.bind_ok, e1, noX_okk, e2]
  · rw [List.filter_eq_self.mpr (fun _ _ => rfl), show (signsS w).map (fun s => W.str (g s)) = ((signsS w).map g).map W.str by rw [List.map_map]; rfl, j2, OkE.ok]
    exact ⟨rfl, CutOk.refl, rfl, List.take_length⟩
end Gen
namespace Gen
open PySem PySem.Spec PyProof.Rows L2 Eng
inductive IsL (rs0 : List Rule) : W → List Rule → Prop
  | lst (rs : List Rule) : IsL rs0 (.lst (rs.map ruleW)) rs
  | ref : IsL rs0 (.ref 1) rs0
section
variable {rs0 rs : List Rule} {v : W} {ns : List Int}
abbrev st2 (ns : List Int) (rs0 : List Rule) : Store := [rowO ns, .lst (rs0.map ruleW)]
theorem IsL.inn (h : IsL rs0 v rs) (p : Rule) : inS (st2 ns rs0) (ruleW p) v = some (decide (p ∈ rs)) := by
  cases h with
  | lst => 
    rw [show inS (st2 ns rs0) (ruleW p) (.lst (rs.map ruleW)) = _ from inS_lst embR (by decide) p rs]
    by_cases h : p ∈ rs <;> simp [h]
  | ref =>
    rw [show inS (st2 ns rs0) (ruleW p) (.ref 1) = _ from inS_ref embR (by decide) p rs0 rfl]
    by_cases h : p ∈ rs0 <;> simp [h]
theorem IsL.nin (h : IsL rs0 v rs) (p : Rule) : oNotIn (ruleW p) v (st2 ns rs0) = .ok (.bl (!decide (p ∈ rs))) (st2 ns rs0) := by
  unfold oNotIn
  rw [h.inn]
theorem IsL.len (h : IsL rs0 v rs) : oLen [v] (st2 ns rs0) = .ok (.int (rs.length : Nat)) (st2 ns rs0) := by
  cases h with
  | lst => rw [o_lenL, List.length_map]
  | ref => rw [o_lenR (xs := rs0.map ruleW) rfl, List.length_map]
theorem IsL.addR (h : IsL rs0 v rs) (l : List Rule) (hl : l.length + rs.length ≤ 100000) : oAdd v (.lst (l.map ruleW)) (st2 ns rs0) = .ok (.lst ((rs ++ l).map ruleW)) (st2 ns rs0) := by
  rw [List.map_append]
  cases h with
  | lst => exact o_addL (by rw [List.length_map, List.length_map, sizeLine_eq]; omega)
  | ref => exact o_addRL rfl (by rw [List.length_map, List.length_map, sizeLine_eq]; omega)
theorem IsL.addL (h : IsL rs0 v rs) (l : List Rule) (hl : l.length + rs.length ≤ 100000) : oAdd (.lst (l.map ruleW)) v (st2 ns rs0) = .ok (.lst ((l ++ rs).map ruleW)) (st2 ns rs0) := by
  rw [List.map_append]
  cases h with
  | lst => exact o_addL (by rw [List.length_map, List.length_map, sizeLine_eq]; omega)
  | ref =>
    unfold oAdd
    simp only [seqM, List.getElem?_cons_succ, List.getElem?_cons_zero]
    rw [if_pos (by rw [List.length_map, List.length_map, sizeLine_eq]; omega)]
theorem IsL.sl (h : IsL rs0 v rs) (lo hi : Option Int) : oSl v lo hi (st2 ns rs0) = .ok (.lst (cutW (rs.map ruleW) lo hi)) (st2 ns rs0) := by
  cases h with
  | lst => rfl
  | ref => exact o_slR rfl
theorem IsL.ix (h : IsL rs0 v rs) {k : Nat} (hk : k < rs.length) : oIx v (.int (k : Nat)) (st2 ns rs0) = .ok (ruleW rs[k]) (st2 ns rs0) := by
  cases h with
  | lst => exact o_ixL (by rw [atI_n, List.getElem?_map, List.getElem?_eq_getElem hk]; rfl)
  | ref => exact o_ixR (xs := rs0.map ruleW) rfl (by rw [atI_n, List.getElem?_map, List.getElem?_eq_getElem hk]; rfl)
/-- a comprehension over such a list -/
theorem IsL.comp (h : IsL rs0 v rs) {τ : ASt} {cg : W → ASt → Option ASt} {ft : FT} {fe : FE} {Q : List W → Store → Prop} (p : Rule → Bool) (g : Rule → W) (hl : rs.length ≤ sizeLine)
    (step : ∀ x ∈ rs, ∃ τ1, cg (ruleW x) τ = some τ1 ∧ ft τ1 (st2 ns rs0) = .ok (p x) (st2 ns rs0) ∧ (p x = true → fe τ1 (st2 ns rs0) = .ok (g x) (st2 ns rs0))) (fin : Q ((rs.filter p).map g) (st2 ns rs0)) (i : Nat) (τ0 : ASt) (hi : τ0[i]? = some (some v)) :
    OkE (mWk (mVar i) τ0 (st2 ns rs0)) fun k S1 => OkE (compGo k cg ft fe τ k.len 0 [] S1) Q := by
  unfold mWk mVar
  rw [hi, OkE.bnd, OkE.ok]
  cases h with
  | lst => 
    simp only [OkE.ok]
    exact comp_pure p g hl step fin
  | ref =>
    simp only [List.getElem?_cons_succ, List.getElem?_cons_zero, OkE.ok]
    exact comp_pure_ref rfl p g hl step fin
end
theorem in_ruleN {name : Str} (h : NameOk name) : ∀ x ∈ signsS name, Good x := fun x hx => by
  unfold signsS at hx
  obtain ⟨c, hc, rfl⟩ := List.mem_map.mp hx
  exact sign_good ((okS_iff.mp h.ok).1 c hc)
structure Piece (x : Str) : Prop where
  ok : okS x = true
  len : x.length ≤ 16
theorem Good.piece {x : Str} (h : Good x) : Piece x := ⟨h.ok, by have := h.len; omega⟩
theorem Good.two {a b : Str} (h1 : Good a) (h2 : Good b) : Piece (a ++ b) := ⟨h1.app h2, by rw [str_app_len]; have := h1.len; have := h2.len; omega⟩
theorem grown_ok {name : Str} {v : W} {rs rs0 : List Rule} {ns : List Int} {many : Nat} {Q : W → Store → Prop} (hn : NameOk name) (hv : IsL rs0 v rs) (hr : RulesOk rs) (hl : rs.length ≤ 50) (hm : many ≤ 10)
    (h : ∀ v' rs' ns', IsL rs0 v' rs' → RulesOk rs' → rs'.length ≤ rs.length + many → Q v' (st2 ns' rs0)) : OkE (m__law_grown [.ref 0, .str name, v, .int (many : Nat), .int 8] (st2 ns rs0)) Q := by
  unfold m__law_grown fnKeep b__law_grown
  refine OkE.keep ?_
  refine OkS.cut (fun τ S => ∃ v' rs' ns' x5 x6 x9, τ = [some (.ref 0), some (.str name), some v', some (.int (many : Nat)), some (.int 8), x5, x6, none, none, x9] ∧ S = st2 ns' rs0 ∧ IsL rs0 v' rs' ∧ RulesOk rs' ∧ rs'.length ≤ rs.length + many) ?_ ?_
  · simp -implicitDefEqProofs only [OkS.ret, OkS.seq, OkS.asg, OkS.exp, OkS.ite, OkS.skip, OkS.brk, OkS.cnt, OkS.for, OkS.while, OkE.bnd, OkE.toS, OkE.ok, OkE.nox, OkE.comp, OkS.nxt, OkS.rtn, mIf, mTest, mBin, mVar, mC, mCall, mCons, mNil, mStar, mSl, mPart, mNoPart, mMeth, mMeth0, mTup, mLst, mLstR, mNeg, mNot, mAnd, mOr, mAndV, mOrV, mNotV, mYes, mRng1, mWk, mEnum, mEnumZip, mZip, mFn, mPar, mPar3, mAug, mIsi, mExpr, gSet, gTupW, gConsW, gNilW, gPut, seqT, startW, wipeW, cName, cTup, cCons, cNil, oIntX, oInt, oAbs, oMin2, oGt, oGe, oLt, oLe, oMod, oFdiv, oSub, oIAdd, Res.bind_ok, Res.toS_ok, noX_okk, List.map_cons, List.map_nil, List.cons_append, List.nil_append, List.append_nil, List.getElem?_cons_zero, List.getElem?_cons_succ, List.set_cons_zero, List.set_cons_succ, List.length_cons, List.length_nil, List.replicate, Nat.reduceAdd, Nat.reduceSub, Nat.add_eq, Nat.add_zero, Nat.sub_self, if_true, if_false, Bool.false_eq_true, reduceIte, Option.getD_some, o_addI, o_slT, o_slS, o_slL, o_lenS, o_lenT, o_lenL, o_lenSc, o_tupS, o_tupL, o_tupT, o_ixT0, o_ixT1, o_ixT2, o_ixL0, o_ixL1, ty_str, sizeLine_eq, Nat.reduceLeDiff, Nat.zero_le, Nat.reduceLT, Int.reduceLT, Int.reduceLE, Int.reduceNeg, and_self, and_true, true_and, Int.reduceToNat]
    rw [if_pos (by omega), OkE.ok, show ((many : Nat) : Int).toNat = many by omega, rangeW_map]
    refine for_map (fun pre τ S => ∃ v' rs' ns' x5 x6 x9, τ = [some (.ref 0), some (.str name), some v', some (.int (many : Nat)), some (.int 8), x5, x6, none, none, x9] ∧ S = st2 ns' rs0 ∧ IsL rs0 v' rs' ∧ RulesOk rs' ∧ rs'.length ≤ rs.length + pre.length) ⟨v, rs, ns, _, _, _, rfl, rfl, hv, hr, by simp⟩ ?_ ?_
    · rintro pre k post τ S e ⟨v', rs', ns', x5, x6, x9, rfl, rfl, hv', hr', hl'⟩
      have hpl : pre.length < many := by
        have := congrArg List.length e
        simp at this
        omega
      generalize W.int ((k : Nat) : Int) = wk
      have e0 : ∀ S, oListX [.str name] S = .ok (.lst ((signsS name).map W.str)) S := fun S => rfl
      simp -implicitDefEqProofs only [OkS.ret, OkS.seq, OkS.asg, OkS.exp, OkS.ite, OkS.skip, OkS.brk, OkS.cnt, OkS.for, OkS.while, OkE.bnd, OkE.toS, OkE.ok, OkE.nox, OkE.comp, OkS.nxt, OkS.rtn, mIf, mTest, mBin, mVar, mC, mCall, mCons, mNil, mStar, mSl, mPart, mNoPart, mMeth, mMeth0, mTup, mLst, mLstR, mNeg, mNot, mAnd, mOr, mAndV, mOrV, mNotV, mYes, mRng1, mEnum, mEnumZip, mZip, mFn, mPar, mPar3, mAug, mIsi, mExpr, gSet, gTupW, gConsW, gNilW, gPut, seqT, startW, wipeW, cName, cTup, cCons, cNil, oIntX, oInt, oAbs, oMin2, oGt, oGe, oLt, oLe, oMod, oFdiv, oSub, oIAdd, Res.bind_ok, Res.toS_ok, noX_okk, List.map_cons, List.map_nil, List.cons_append, List.nil_append, List.append_nil, List.getElem?_cons_zero, List.getElem?_cons_succ, List.set_cons_zero, List.set_cons_succ, List.length_cons, List.length_nil, List.replicate, Nat.reduceAdd, Nat.reduceSub, Nat.add_eq, Nat.add_zero, Nat.sub_self, if_true, if_false, Bool.false_eq_true, reduceIte, Option.getD_some, o_addI, o_slT, o_slS, o_slL, o_lenS, o_lenT, o_lenL, o_lenSc, o_tupS, o_tupL, o_tupT, o_ixT0, o_ixT1, o_ixT2, o_ixL0, o_ixL1, ty_str, sizeLine_eq, Nat.reduceLeDiff, Nat.zero_le, Nat.reduceLT, Int.reduceLT, Int.reduceLE, Int.reduceNeg, and_self, and_true, true_and, Int.reduceToNat, e0]
      refine hv'.comp (fun _ => true) (fun p => W.str (p.1 ++ p.2)) (by rw [sizeLine_eq]; omega) (fun p hp => ?_) ?_ 2 _ rfl
      · refine ⟨[some (.ref 0), some (.str name), some v', some (.int (many : Nat)), some (.int 8), some wk, x6, some (.str p.1), some (.str p.2), x9], by simp -implicitDefEqProofs only [OkS.ret, OkS.seq, OkS.asg, OkS.exp, OkS.ite, OkS.skip, OkS.brk, OkS.cnt, OkS.for, OkS.while, OkE.bnd, OkE.toS, OkE.ok, OkE.nox, OkE.comp, OkS.nxt, OkS.rtn, mIf, mTest, mBin, mVar, mC, mCall, mCons, mNil, mStar, mSl, mPart, mNoPart, mMeth, mMeth0, mTup, mLst, mLstR, mNeg, mNot, mAnd, mOr, mAndV, mOrV, mNotV, mYes, mRng1, mWk, mEnum, mEnumZip, mZip, mFn, mPar, mPar3, mAug, mIsi, mExpr, gSet, gTupW, gConsW, gNilW, gPut, seqT, startW, wipeW, cName, cTup, cCons, cNil, oIntX, oInt, oAbs, oMin2, oGt, oGe, oLt, oLe, oMod, oFdiv, oSub, oIAdd, Res.bind_ok, Res.toS_ok, noX_okk, List.map_cons, List.map_nil, List.cons_append, List.nil_append, List.append_nil, List.getElem?_cons_zero, List.getElem?_cons_succ, List.set_cons_zero, List.set_cons_succ, List.length_cons, List.length_nil, List.replicate, Nat.reduceAdd, Nat.reduceSub, Nat.add_eq, Nat.add_zero, Nat.sub_self, if_true, if_false, Bool.false_eq_true, reduceIte, Option.getD_some, o_addI, o_slT, o_slS, o_slL, o_lenS, o_lenT, o_lenL, o_lenSc, o_tupS, o_tupL, o_tupT, o_ixT0, o_ixT1, o_ixT2, o_ixL0, o_ixL1, ty_str, sizeLine_eq, Nat.reduceLeDiff, Nat.zero_le, Nat.reduceLT, Int.reduceLT, Int.reduceLE, Int.reduceNeg, and_self, and_true, true_and, Int.reduceToNat, ruleW], rfl, fun _ => ?_⟩
        have hp := hr' p hp
        simp -implicitDefEqProofs only [OkS.ret, OkS.seq, OkS.asg, OkS.exp, OkS.ite, OkS.skip, OkS.brk, OkS.cnt, OkS.for, OkS.while, OkE.bnd, OkE.toS, OkE.ok, OkE.nox, OkE.comp, OkS.nxt, OkS.rtn, mIf, mTest, mBin, mVar, mC, mCall, mCons, mNil, mStar, mSl, mPart, mNoPart, mMeth, mMeth0, mTup, mLst, mLstR, mNeg, mNot, mAnd, mOr, mAndV, mOrV, mNotV, mYes, mRng1, mWk, mEnum, mEnumZip, mZip, mFn, mPar, mPar3, mAug, mIsi, mExpr, gSet, gTupW, gConsW, gNilW, gPut, seqT, startW, wipeW, cName, cTup, cCons, cNil, oIntX, oInt, oAbs, oMin2, oGt, oGe, oLt, oLe, oMod, oFdiv, oSub, oIAdd, Res.bind_ok, Res.toS_ok, noX_okk, List.map_cons, List.map_nil, List.cons_append, List.nil_append, List.append_nil, List.getElem?_cons_zero, List.getElem?_cons_succ, List.set_cons_zero, List.set_cons_succ, List.length_cons, List.length_nil, List.replicate, Nat.reduceAdd, Nat.reduceSub, Nat.add_eq, Nat.add_zero, Nat.sub_self, if_true, if_false, Bool.false_eq_true, reduceIte, Option.getD_some, o_addI, o_slT, o_slS, o_slL, o_lenS, o_lenT, o_lenL, o_lenSc, o_tupS, o_tupL, o_tupT, o_ixT0, o_ixT1, o_ixT2, o_ixL0, o_ixL1, ty_str, sizeLine_eq, Nat.reduceLeDiff, Nat.zero_le, Nat.reduceLT, Int.reduceLT, Int.reduceLE, Int.reduceNeg, and_self, and_true, true_and, Int.reduceToNat]
        rw [o_addS (by rw [sizeLine_eq]; have := hp.1.len; have := hp.2.len; omega)]
        rfl
      · rw [List.filter_eq_self.mpr (fun _ _ => rfl)]
        let made : List Str := signsS name ++ rs'.map fun p => p.1 ++ p.2
        have hmade : ∀ x ∈ made, Piece x := fun x hx => by
          rcases List.mem_append.mp hx with z | z
          · exact (in_ruleN hn x z).piece
          · obtain ⟨p, hp, rfl⟩ := List.mem_map.mp z
            exact (hr' p hp).1.two (hr' p hp).2
        have hnl : 1 ≤ name.length ∧ name.length ≤ 4 := by
          have := hn.mem
          simp at this
          omega
        have hml : made.length = name.length + rs'.length := by
          show (signsS name ++ rs'.map fun p => p.1 ++ p.2).length = _
          rw [List.length_append, signs_len, List.length_map]
        have emade : (signsS name).map W.str ++ rs'.map (fun p : Rule => W.str (p.1 ++ p.2)) = made.map W.str := by
          show _ = (signsS name ++ rs'.map fun p => p.1 ++ p.2).map W.str
          rw [List.map_append, List.map_map]
          rfl
        rw [o_addL (by simp only [List.length_map, signs_len, sizeLine_eq]; omega), emade]
        simp -implicitDefEqProofs only [OkS.ret, OkS.seq, OkS.asg, OkS.exp, OkS.ite, OkS.skip, OkS.brk, OkS.cnt, OkS.for, OkS.while, OkE.bnd, OkE.toS, OkE.ok, OkE.nox, OkE.comp, OkS.nxt, OkS.rtn, mIf, mTest, mBin, mVar, mC, mCall, mCons, mNil, mStar, mSl, mPart, mNoPart, mMeth, mMeth0, mTup, mLst, mLstR, mNeg, mNot, mAnd, mOr, mAndV, mOrV, mNotV, mYes, mRng1, mWk, mEnum, mEnumZip, mZip, mFn, mPar, mPar3, mAug, mIsi, mExpr, gSet, gTupW, gConsW, gNilW, gPut, seqT, startW, wipeW, cName, cTup, cCons, cNil, oIntX, oInt, oAbs, oMin2, oGt, oGe, oLt, oLe, oMod, oFdiv, oSub, oIAdd, Res.bind_ok, Res.toS_ok, noX_okk, List.map_cons, List.map_nil, List.cons_append, List.nil_append, List.append_nil, List.getElem?_cons_zero, List.getElem?_cons_succ, List.set_cons_zero, List.set_cons_succ, List.length_cons, List.length_nil, List.replicate, Nat.reduceAdd, Nat.reduceSub, Nat.add_eq, Nat.add_zero, Nat.sub_self, if_true, if_false, Bool.false_eq_true, reduceIte, Option.getD_some, o_addI, o_slT, o_slS, o_slL, o_lenS, o_lenT, o_lenL, o_lenSc, o_tupS, o_tupL, o_tupT, o_ixT0, o_ixT1, o_ixT2, o_ixL0, o_ixL1, ty_str, sizeLine_eq, Nat.reduceLeDiff, Nat.zero_le, Nat.reduceLT, Int.reduceLT, Int.reduceLE, Int.reduceNeg, and_self, and_true, true_and, Int.reduceToNat, List.length_map]
        refine take_ok (by omega) fun r1 ns1 hr1 => ?_
        have i1 : r1 < made.length := by omega
        rw [o_ixL (xs := made.map W.str) (x := .str made[r1]) (by rw [atI_n, List.getElem?_map, List.getElem?_eq_getElem i1]; rfl)]
        simp -implicitDefEqProofs only [OkS.ret, OkS.seq, OkS.asg, OkS.exp, OkS.ite, OkS.skip, OkS.brk, OkS.cnt, OkS.for, OkS.while, OkE.bnd, OkE.toS, OkE.ok, OkE.nox, OkE.comp, OkS.nxt, OkS.rtn, mIf, mTest, mBin, mVar, mC, mCall, mCons, mNil, mStar, mSl, mPart, mNoPart, mMeth, mMeth0, mTup, mLst, mLstR, mNeg, mNot, mAnd, mOr, mAndV, mOrV, mNotV, mYes, mRng1, mWk, mEnum, mEnumZip, mZip, mFn, mPar, mPar3, mAug, mIsi, mExpr, gSet, gTupW, gConsW, gNilW, gPut, seqT, startW, wipeW, cName, cTup, cCons, cNil, oIntX, oInt, oAbs, oMin2, oGt, oGe, oLt, oLe, oMod, oFdiv, oSub, oIAdd, Res.bind_ok, Res.toS_ok, noX_okk, List.map_cons, List.map_nil, List.cons_append, List.nil_append, List.append_nil, List.getElem?_cons_zero, List.getElem?_cons_succ, List.set_cons_zero, List.set_cons_succ, List.length_cons, List.length_nil, List.replicate, Nat.reduceAdd, Nat.reduceSub, Nat.add_eq, Nat.add_zero, Nat.sub_self, if_true, if_false, Bool.false_eq_true, reduceIte, Option.getD_some, o_addI, o_slT, o_slS, o_slL, o_lenS, o_lenT, o_lenL, o_lenSc, o_tupS, o_tupL, o_tupT, o_ixT0, o_ixT1, o_ixT2, o_ixL0, o_ixL1, ty_str, sizeLine_eq, Nat.reduceLeDiff, Nat.zero_le, Nat.reduceLT, Int.reduceLT, Int.reduceLE, Int.reduceNeg, and_self, and_true, true_and, Int.reduceToNat]
        refine take_ok (by omega) fun r2 ns2 hr2 => ?_
        have i2 : r2 < made.length := by omega
        rw [o_ixL (xs := made.map W.str) (x := .str made[r2]) (by rw [atI_n, List.getElem?_map, List.getElem?_eq_getElem i2]; rfl)]
        have q1 := hmade _ (List.getElem_mem i1)
        have q2 := hmade _ (List.getElem_mem i2)
        generalize made[r1] = a at q1
        generalize made[r2] = b at q2
        have ea : ∀ S, oAdd (.str a) (.str b) S = .ok (.str (a ++ b)) S := fun S => o_addS (by rw [sizeLine_eq]; have := q1.len; have := q2.len; omega)
        simp -implicitDefEqProofs only [OkS.ret, OkS.seq, OkS.asg, OkS.exp, OkS.ite, OkS.skip, OkS.brk, OkS.cnt, OkS.for, OkS.while, OkE.bnd, OkE.toS, OkE.ok, OkE.nox, OkE.comp, OkS.nxt, OkS.rtn, mIf, mTest, mBin, mVar, mC, mCall, mCons, mNil, mStar, mSl, mPart, mNoPart, mMeth, mMeth0, mTup, mLst, mLstR, mNeg, mNot, mAnd, mOr, mAndV, mOrV, mNotV, mYes, mRng1, mWk, mEnum, mEnumZip, mZip, mFn, mPar, mPar3, mAug, mIsi, mExpr, gSet, gTupW, gConsW, gNilW, gPut, seqT, startW, wipeW, cName, cTup, cCons, cNil, oIntX, oInt, oAbs, oMin2, oGt, oGe, oLt, oLe, oMod, oFdiv, oSub, oIAdd, Res.bind_ok, Res.toS_ok, noX_okk, List.map_cons, List.map_nil, List.cons_append, List.nil_append, List.append_nil, List.getElem?_cons_zero, List.getElem?_cons_succ, List.set_cons_zero, List.set_cons_succ, List.length_cons, List.length_nil, List.replicate, Nat.reduceAdd, Nat.reduceSub, Nat.add_eq, Nat.add_zero, Nat.sub_self, if_true, if_false, Bool.false_eq_true, reduceIte, Option.getD_some, o_addI, o_slT, o_slS, o_slL, o_lenS, o_lenT, o_lenL, o_lenSc, o_tupS, o_tupL, o_tupT, o_ixT0, o_ixT1, o_ixT2, o_ixL0, o_ixL1, ty_str, sizeLine_eq, Nat.reduceLeDiff, Nat.zero_le, Nat.reduceLT, Int.reduceLT, Int.reduceLE, Int.reduceNeg, and_self, and_true, true_and, Int.reduceToNat, ea]
        by_cases hle : (((a ++ b).length : Nat) : Int) ≤ 8
        · simp -implicitDefEqProofs only [OkS.ret, OkS.seq, OkS.asg, OkS.exp, OkS.ite, OkS.skip, OkS.brk, OkS.cnt, OkS.for, OkS.while, OkE.bnd, OkE.toS, OkE.ok, OkE.nox, OkE.comp, OkS.nxt, OkS.rtn, mIf, mTest, mBin, mVar, mC, mCall, mCons, mNil, mStar, mSl, mPart, mNoPart, mMeth, mMeth0, mTup, mLst, mLstR, mNeg, mNot, mAnd, mOr, mAndV, mOrV, mNotV, mYes, mRng1, mWk, mEnum, mEnumZip, mZip, mFn, mPar, mPar3, mAug, mIsi, mExpr, gSet, gTupW, gConsW, gNilW, gPut, seqT, startW, wipeW, cName, cTup, cCons, cNil, oIntX, oInt, oAbs, oMin2, oGt, oGe, oLt, oLe, oMod, oFdiv, oSub, oIAdd, Res.bind_ok, Res.toS_ok, noX_okk, List.map_cons, List.map_nil, List.cons_append, List.nil_append, List.append_nil, List.getElem?_cons_zero, List.getElem?_cons_succ, List.set_cons_zero, List.set_cons_succ, List.length_cons, List.length_nil, List.replicate, Nat.reduceAdd, Nat.reduceSub, Nat.add_eq, Nat.add_zero, Nat.sub_self, if_true, if_false, Bool.false_eq_true, reduceIte, Option.getD_some, o_addI, o_slT, o_slS, o_slL, o_lenS, o_lenT, o_lenL, o_lenSc, o_tupS, o_tupL, o_tupT, o_ixT0, o_ixT1, o_ixT2, o_ixL0, o_ixL1, ty_str, sizeLine_eq, Nat.reduceLeDiff, Nat.zero_le, Nat.reduceLT, Int.reduceLT, Int.reduceLE, Int.reduceNeg, and_self, and_true, true_and, Int.reduceToNat, hle, decide_true]
          rw [show W.tup [W.str a, W.str b] = ruleW (a, b) from rfl, show ([rowO ns2, .lst (rs0.map ruleW)] : Store) = st2 ns2 rs0 from rfl, hv'.nin]
          by_cases hin : (a, b) ∈ rs'
          · simp -implicitDefEqProofs only [OkS.ret, OkS.seq, OkS.asg, OkS.exp, OkS.ite, OkS.skip, OkS.brk, OkS.cnt, OkS.for, OkS.while, OkE.bnd, OkE.toS, OkE.ok, OkE.nox, OkE.comp, OkS.nxt, OkS.rtn, mIf, mTest, mBin, mVar, mC, mCall, mCons, mNil, mStar, mSl, mPart, mNoPart, mMeth, mMeth0, mTup, mLst, mLstR, mNeg, mNot, mAnd, mOr, mAndV, mOrV, mNotV, mYes, mRng1, mWk, mEnum, mEnumZip, mZip, mFn, mPar, mPar3, mAug, mIsi, mExpr, gSet, gTupW, gConsW, gNilW, gPut, seqT, startW, wipeW, cName, cTup, cCons, cNil, oIntX, oInt, oAbs, oMin2, oGt, oGe, oLt, oLe, oMod, oFdiv, oSub, oIAdd, Res.bind_ok, Res.toS_ok, noX_okk, List.map_cons, List.map_nil, List.cons_append, List.nil_append, List.append_nil, List.getElem?_cons_zero, List.getElem?_cons_succ, List.set_cons_zero, List.set_cons_succ, List.length_cons, List.length_nil, List.replicate, Nat.reduceAdd, Nat.reduceSub, Nat.add_eq, Nat.add_zero, Nat.sub_self, if_true, if_false, Bool.false_eq_true, reduceIte, Option.getD_some, o_addI, o_slT, o_slS, o_slL, o_lenS, o_lenT, o_lenL, o_lenSc, o_tupS, o_tupL, o_tupT, o_ixT0, o_ixT1, o_ixT2, o_ixL0, o_ixL1, ty_str, sizeLine_eq, Nat.reduceLeDiff, Nat.zero_le, Nat.reduceLT, Int.reduceLT, Int.reduceLE, Int.reduceNeg, and_self, and_true, true_and, Int.reduceToNat, hin, decide_true, Bool.not_true]
            exact ⟨v', rs', ns2, _, _, _, rfl, rfl, hv', hr', by rw [List.length_append]; omega⟩
          · simp -implicitDefEqProofs only [OkS.ret, OkS.seq, OkS.asg, OkS.exp, OkS.ite, OkS.skip, OkS.brk, OkS.cnt, OkS.for, OkS.while, OkE.bnd, OkE.toS, OkE.ok, OkE.nox, OkE.comp, OkS.nxt, OkS.rtn, mIf, mTest, mBin, mVar, mC, mCall, mCons, mNil, mStar, mSl, mPart, mNoPart, mMeth, mMeth0, mTup, mLst, mLstR, mNeg, mNot, mAnd, mOr, mAndV, mOrV, mNotV, mYes, mRng1, mWk, mEnum, mEnumZip, mZip, mFn, mPar, mPar3, mAug, mIsi, mExpr, gSet, gTupW, gConsW, gNilW, gPut, seqT, startW, wipeW, cName, cTup, cCons, cNil, oIntX, oInt, oAbs, oMin2, oGt, oGe, oLt, oLe, oMod, oFdiv, oSub, oIAdd, Res.bind_ok, Res.toS_ok, noX_okk, List.map_cons, List.map_nil, List.cons_append, List.nil_append, List.append_nil, List.getElem?_cons_zero, List.getElem?_cons_succ, List.set_cons_zero, List.set_cons_succ, List.length_cons, List.length_nil, List.replicate, Nat.reduceAdd, Nat.reduceSub, Nat.add_eq, Nat.add_zero, Nat.sub_self, if_true, if_false, Bool.false_eq_true, reduceIte, Option.getD_some, o_addI, o_slT, o_slS, o_slL, o_lenS, o_lenT, o_lenL, o_lenSc, o_tupS, o_tupL, o_tupT, o_ixT0, o_ixT1, o_ixT2, o_ixL0, o_ixL1, ty_str, sizeLine_eq, Nat.reduceLeDiff, Nat.zero_le, Nat.reduceLT, Int.reduceLT, Int.reduceLE, Int.reduceNeg, and_self, and_true, true_and, Int.reduceToNat, hin, decide_false, Bool.not_false]
            rw [show ([ruleW (a, b)] : List W) = [(a, b)].map ruleW from rfl, hv'.addR [(a, b)] (by simp; omega)]
            simp -implicitDefEqProofs only [OkS.ret, OkS.seq, OkS.asg, OkS.exp, OkS.ite, OkS.skip, OkS.brk, OkS.cnt, OkS.for, OkS.while, OkE.bnd, OkE.toS, OkE.ok, OkE.nox, OkE.comp, OkS.nxt, OkS.rtn, mIf, mTest, mBin, mVar, mC, mCall, mCons, mNil, mStar, mSl, mPart, mNoPart, mMeth, mMeth0, mTup, mLst, mLstR, mNeg, mNot, mAnd, mOr, mAndV, mOrV, mNotV, mYes, mRng1, mWk, mEnum, mEnumZip, mZip, mFn, mPar, mPar3, mAug, mIsi, mExpr, gSet, gTupW, gConsW, gNilW, gPut, seqT, startW, wipeW, cName, cTup, cCons, cNil, oIntX, oInt, oAbs, oMin2, oGt, oGe, oLt, oLe, oMod, oFdiv, oSub, oIAdd, Res.bind_ok, Res.toS_ok, noX_okk, List.map_cons, List.map_nil, List.cons_append, List.nil_append, List.append_nil, List.getElem?_cons_zero, List.getElem?_cons_succ, List.set_cons_zero, List.set_cons_succ, List.length_cons, List.length_nil, List.replicate, Nat.reduceAdd, Nat.reduceSub, Nat.add_eq, Nat.add_zero, Nat.sub_self, if_true, if_false, Bool.false_eq_true, reduceIte, Option.getD_some, o_addI, o_slT, o_slS, o_slL, o_lenS, o_lenT, o_lenL, o_lenSc, o_tupS, o_tupL, o_tupT, o_ixT0, o_ixT1, o_ixT2, o_ixL0, o_ixL1, ty_str, sizeLine_eq, Nat.reduceLeDiff, Nat.zero_le, Nat.reduceLT, Int.reduceLT, Int.reduceLE, Int.reduceNeg, and_self, and_true, true_and, Int.reduceToNat]
            refine ⟨_, rs' ++ [(a, b)], ns2, _, _, _, rfl, rfl, .lst _, fun p hp => ?_, by rw [List.length_append, List.length_append]; simp; omega⟩
            rcases List.mem_append.mp hp with z | z
            · exact hr' p z
            · have : p = (a, b) := by simpa using z
              subst this
              rw [str_app_len] at hle
              exact ⟨⟨q1.ok, by show a.length ≤ 8; omega⟩, q2.ok, by show b.length ≤ 8; omega⟩
        · simp -implicitDefEqProofs only [OkS.ret, OkS.seq, OkS.asg, OkS.exp, OkS.ite, OkS.skip, OkS.brk, OkS.cnt, OkS.for, OkS.while, OkE.bnd, OkE.toS, OkE.ok, OkE.nox, OkE.comp, OkS.nxt, OkS.rtn, mIf, mTest, mBin, mVar, mC, mCall, mCons, mNil, mStar, mSl, mPart, mNoPart, mMeth, mMeth0, mTup, mLst, mLstR, mNeg, mNot, mAnd, mOr, mAndV, mOrV, mNotV, mYes, mRng1, mWk, mEnum, mEnumZip, mZip, mFn, mPar, mPar3, mAug, mIsi, mExpr, gSet, gTupW, gConsW, gNilW, gPut, seqT, startW, wipeW, cName, cTup, cCons, cNil, oIntX, oInt, oAbs, oMin2, oGt, oGe, oLt, oLe, oMod, oFdiv, oSub, oIAdd, Res.bind_ok, Res.toS_ok, noX_okk, List.map_cons, List.map_nil, List.cons_append, List.nil_append, List.append_nil, List.getElem?_cons_zero, List.getElem?_cons_succ, List.set_cons_zero, List.set_cons_succ, List.length_cons, List.length_nil, List.replicate, Nat.reduceAdd, Nat.reduceSub, Nat.add_eq, Nat.add_zero, Nat.sub_self, if_true, if_false, Bool.false_eq_true, reduceIte, Option.getD_some, o_addI, o_slT, o_slS, o_slL, o_lenS, o_lenT, o_lenL, o_lenSc, o_tupS, o_tupL, o_tupT, o_ixT0, o_ixT1, o_ixT2, o_ixL0, o_ixL1, ty_str, sizeLine_eq, Nat.reduceLeDiff, Nat.zero_le, Nat.reduceLT, Int.reduceLT, Int.reduceLE, Int.reduceNeg, and_self, and_true, true_and, Int.reduceToNat, hle, decide_false]
          exact ⟨v', rs', ns2, _, _, _, rfl, rfl, hv', hr', by rw [List.length_append]; omega⟩
    · rintro τ S ⟨v', rs', ns', x5, x6, x9, rfl, rfl, hv', hr', hl'⟩
      rw [List.length_range] at hl'
      exact ⟨v', rs', ns', _, _, _, rfl, rfl, hv', hr', hl'⟩
  · rintro τ S ⟨v', rs', ns', x5, x6, x9, rfl, rfl, hv', hr', hl'⟩
    simp -implicitDefEqProofs only [OkS.ret, OkS.seq, OkS.asg, OkS.exp, OkS.ite, OkS.skip, OkS.brk, OkS.cnt, OkS.for, OkS.while, OkE.bnd, OkE.toS, OkE.ok, OkE.nox, OkE.comp, OkS.nxt, OkS.rtn, mIf, mTest, mBin, mVar, mC, mCall, mCons, mNil, mStar, mSl, mPart, mNoPart, mMeth, mMeth0, mTup, mLst, mLstR, mNeg, mNot, mAnd, mOr, mAndV, mOrV, mNotV, mYes, mRng1, mWk, mEnum, mEnumZip, mZip, mFn, mPar, mPar3, mAug, mIsi, mExpr, gSet, gTupW, gConsW, gNilW, gPut, seqT, startW, wipeW, cName, cTup, cCons, cNil, oIntX, oInt, oAbs, oMin2, oGt, oGe, oLt, oLe, oMod, oFdiv, oSub, oIAdd, Res.bind_ok, Res.toS_ok, noX_okk, List.map_cons, List.map_nil, List.cons_append, List.nil_append, List.append_nil, List.getElem?_cons_zero, List.getElem?_cons_succ, List.set_cons_zero, List.set_cons_succ, List.length_cons, List.length_nil, List.replicate, Nat.reduceAdd, Nat.reduceSub, Nat.add_eq, Nat.add_zero, Nat.sub_self, if_true, if_false, Bool.false_eq_true, reduceIte, Option.getD_some, o_addI, o_slT, o_slS, o_slL, o_lenS, o_lenT, o_lenL, o_lenSc, o_tupS, o_tupL, o_tupT, o_ixT0, o_ixT1, o_ixT2, o_ixL0, o_ixL1, ty_str, sizeLine_eq, Nat.reduceLeDiff, Nat.zero_le, Nat.reduceLT, Int.reduceLT, Int.reduceLE, Int.reduceNeg, and_self, and_true, true_and, Int.reduceToNat]
    exact h v' rs' ns' hv' hr' hl'
end Gen
namespace Gen
open PySem PySem.Spec PyProof.Rows L2 Eng
theorem nin_str {s p : Str} {S : Store} : oNotIn (.str s) (.str p) S = .ok (.bl (notIn s p)) S := by
  unfold oNotIn inS notIn
  simp
theorem ne_str {a b : Str} {S : Store} : oNe (.str a) (.str b) S = .ok (.bl (!decide (a = b))) S := oNe_emb embS (by decide) a b
theorem eq_int {a b : Int} {S : Store} : oEq (.int a) (.int b) S = .ok (.bl (decide (a = b))) S := oEq_emb embI (by decide) a b
theorem eq_strs {a b : List Str} {S : Store} : oEq (.lst (a.map W.str)) (.lst (b.map W.str)) S = .ok (.bl (decide (a = b))) S := oEq_emb (embL embS) (by decide) a b
theorem cut_good {x : Str} {lo hi : Option Int} (h : Good x) : Good (cutS x lo hi) := ⟨okS_cut h.ok, by
  have := h.len
  show (List.toArray _).size ≤ 8
  rw [List.size_toArray, List.length_take, List.length_drop]
  have e : x.cps.toList.length = x.length := rfl
  omega⟩
theorem rules_data (rs : List Rule) : (W.tup (rs.map ruleW)).isData = true := (embT embR).data rs
theorem st2_cut {ns ns' : List Int} {rs0 : List Rule} : CutOk [rowO ns] (st2 ns' rs0) := CutOk.cons (.inl (ints_data ns')) CutOk.nil
theorem rules_ok {name : Str} {ns : List Int} {most : Nat} {Q : W → Store → Prop} (hn : NameOk name) (hm : most ≤ 100)
    (h : ∀ rs ns', RulesOk rs → rs.length ≤ most → Q (.tup (rs.map ruleW)) [rowO ns']) : OkE (m__law_rules [.ref 0, .str name, .int (most : Nat), .int 8] [rowO ns]) Q := by
  have hnl : 1 ≤ name.length ∧ name.length ≤ 4 := by
    have := hn.mem
    simp at this
    omega
  unfold m__law_rules fnRes b__law_rules
  refine OkE.leave ?_
  simp only [startW, List.map_cons, List.map_nil, List.length_cons, List.length_nil, Nat.reduceAdd, Nat.reduceSub, List.replicate, List.cons_append, List.nil_append]
  -- the plans
  refine OkS.cut (fun τ S => τ = [some (.ref 0), some (.str name), some (.int (most : Nat)), some (.int 8), some (.lst (plans.map W.str)), none, none, none, none, none, none, none, none, none, none, none] ∧ S = [rowO ns]) ?_ ?_
  · simp -implicitDefEqProofs only [OkS.ret, OkS.seq, OkS.asg, OkS.exp, OkS.ite, OkS.skip, OkS.brk, OkS.cnt, OkS.for, OkS.while, OkE.bnd, OkE.toS, OkE.ok, OkE.nox, OkE.comp, OkS.nxt, OkS.rtn, mIf, mTest, mBin, mVar, mC, mCall, mCons, mNil, mStar, mSl, mPart, mNoPart, mMeth, mMeth0, mTup, mLst, mLstR, mNeg, mNot, mAnd, mOr, mAndV, mOrV, mNotV, mYes, mRng1, mWk, mEnum, mEnumZip, mZip, mFn, mPar, mPar3, mAug, mIsi, mExpr, gSet, gTupW, gConsW, gNilW, gPut, seqT, startW, wipeW, cName, cTup, cCons, cNil, oIntX, oInt, oAbs, oMin2, oGt, oGe, oLt, oLe, oMod, oFdiv, oSub, oIAdd, Res.bind_ok, Res.toS_ok, noX_okk, List.map_cons, List.map_nil, List.cons_append, List.nil_append, List.append_nil, List.getElem?_cons_zero, List.getElem?_cons_succ, List.set_cons_zero, List.set_cons_succ, List.length_cons, List.length_nil, List.replicate, Nat.reduceAdd, Nat.reduceSub, Nat.add_eq, Nat.add_zero, Nat.sub_self, if_true, if_false, Bool.false_eq_true, reduceIte, Option.getD_some, o_addI, o_slT, o_slS, o_slL, o_lenS, o_lenT, o_lenL, o_lenSc, o_tupS, o_tupL, o_tupT, o_ixT0, o_ixT1, o_ixT2, o_ixL0, o_ixL1, ty_str, sizeLine_eq, Nat.reduceLeDiff, Nat.zero_le, Nat.reduceLT, Int.reduceLT, Int.reduceLE, Int.reduceNeg, and_self, and_true, true_and, Int.reduceToNat]
    first
      | exact ⟨rfl, rfl⟩
      | exact rfl
  rintro τ S ⟨rfl, rfl⟩
  refine OkS.cut (fun τ S => ∃ x5, τ = [some (.ref 0), some (.str name), some (.int (most : Nat)), some (.int 8), some (.lst ((plansOf name.length).map W.str)), x5, none, none, none, none, none, none, none, none, none, none] ∧ S = [rowO ns]) ?_ ?_
  · simp -implicitDefEqProofs only [OkS.ret, OkS.seq, OkS.asg, OkS.exp, OkS.ite, OkS.skip, OkS.brk, OkS.cnt, OkS.for, OkS.while, OkE.bnd, OkE.toS, OkE.ok, OkE.nox, OkE.comp, OkS.nxt, OkS.rtn, mIf, mTest, mBin, mVar, mC, mCall, mCons, mNil, mStar, mSl, mPart, mNoPart, mMeth, mMeth0, mTup, mLst, mLstR, mNeg, mNot, mAnd, mOr, mAndV, mOrV, mNotV, mYes, mRng1, mWk, mEnum, mEnumZip, mZip, mFn, mPar, mPar3, mAug, mIsi, mExpr, gSet, gTupW, gConsW, gNilW, gPut, seqT, startW, wipeW, cName, cTup, cCons, cNil, oIntX, oInt, oAbs, oMin2, oGt, oGe, oLt, oLe, oMod, oFdiv, oSub, oIAdd, Res.bind_ok, Res.toS_ok, noX_okk, List.map_cons, List.map_nil, List.cons_append, List.nil_append, List.append_nil, List.getElem?_cons_zero, List.getElem?_cons_succ, List.set_cons_zero, List.set_cons_succ, List.length_cons, List.length_nil, List.replicate, Nat.reduceAdd, Nat.reduceSub, Nat.add_eq, Nat.add_zero, Nat.sub_self, if_true, if_false, Bool.false_eq_true, reduceIte, Option.getD_some, o_addI, o_slT, o_slS, o_slL, o_lenS, o_lenT, o_lenL, o_lenSc, o_tupS, o_tupL, o_tupT, o_ixT0, o_ixT1, o_ixT2, o_ixL0, o_ixL1, ty_str, sizeLine_eq, Nat.reduceLeDiff, Nat.zero_le, Nat.reduceLT, Int.reduceLT, Int.reduceLE, Int.reduceNeg, and_self, and_true, true_and, Int.reduceToNat]
    unfold signsW
    refine for_map (fun pre τ S => ∃ x5, τ = [some (.ref 0), some (.str name), some (.int (most : Nat)), some (.int 8), some (.lst ((pre.foldl (fun ps s => ps.filter (notIn s)) plans).map W.str)), x5, none, none, none, none, none, none, none, none, none, none] ∧ S = [rowO ns]) ⟨_, rfl, rfl⟩ ?_ ?_
    · rintro pre s post τ S e ⟨x5, rfl, rfl⟩
      simp -implicitDefEqProofs only [OkS.ret, OkS.seq, OkS.asg, OkS.exp, OkS.ite, OkS.skip, OkS.brk, OkS.cnt, OkS.for, OkS.while, OkE.bnd, OkE.toS, OkE.ok, OkE.nox, OkE.comp, OkS.nxt, OkS.rtn, mIf, mTest, mBin, mVar, mC, mCall, mCons, mNil, mStar, mSl, mPart, mNoPart, mMeth, mMeth0, mTup, mLst, mLstR, mNeg, mNot, mAnd, mOr, mAndV, mOrV, mNotV, mYes, mRng1, mWk, mEnum, mEnumZip, mZip, mFn, mPar, mPar3, mAug, mIsi, mExpr, gSet, gTupW, gConsW, gNilW, gPut, seqT, startW, wipeW, cName, cTup, cCons, cNil, oIntX, oInt, oAbs, oMin2, oGt, oGe, oLt, oLe, oMod, oFdiv, oSub, oIAdd, Res.bind_ok, Res.toS_ok, noX_okk, List.map_cons, List.map_nil, List.cons_append, List.nil_append, List.append_nil, List.getElem?_cons_zero, List.getElem?_cons_succ, List.set_cons_zero, List.set_cons_succ, List.length_cons, List.length_nil, List.replicate, Nat.reduceAdd, Nat.reduceSub, Nat.add_eq, Nat.add_zero, Nat.sub_self, if_true, if_false, Bool.false_eq_true, reduceIte, Option.getD_some, o_addI, o_slT, o_slS, o_slL, o_lenS, o_lenT, o_lenL, o_lenSc, o_tupS, o_tupL, o_tupT, o_ixT0, o_ixT1, o_ixT2, o_ixL0, o_ixL1, ty_str, sizeLine_eq, Nat.reduceLeDiff, Nat.zero_le, Nat.reduceLT, Int.reduceLT, Int.reduceLE, Int.reduceNeg, and_self, and_true, true_and, Int.reduceToNat]
      have hlen : ∀ (l : List Str) (ps : List Str), (l.foldl (fun ps s => ps.filter (notIn s)) ps).length ≤ ps.length := by
        intro l
        induction l with
        | nil => intro ps; exact Nat.le_refl _
        | cons x l ih => intro ps; exact Nat.le_trans (ih _) (List.length_filter_le _ _)
      have hl1 := hlen pre plans
      have hl2 : plans.length = 25 := rfl
      refine comp_pure (notIn s) W.str (by rw [sizeLine_eq]; omega) (fun p hp => ⟨[some (.ref 0), some (.str name), some (.int (most : Nat)), some (.int 8), some (.lst ((pre.foldl (fun ps s => ps.filter (notIn s)) plans).map W.str)), some (.str s), some (.str p), none, none, none, none, none, none, none, none, none], by simp -implicitDefEqProofs only [OkS.ret, OkS.seq, OkS.asg, OkS.exp, OkS.ite, OkS.skip, OkS.brk, OkS.cnt, OkS.for, OkS.while, OkE.bnd, OkE.toS, OkE.ok, OkE.nox, OkE.comp, OkS.nxt, OkS.rtn, mIf, mTest, mBin, mVar, mC, mCall, mCons, mNil, mStar, mSl, mPart, mNoPart, mMeth, mMeth0, mTup, mLst, mLstR, mNeg, mNot, mAnd, mOr, mAndV, mOrV, mNotV, mYes, mRng1, mWk, mEnum, mEnumZip, mZip, mFn, mPar, mPar3, mAug, mIsi, mExpr, gSet, gTupW, gConsW, gNilW, gPut, seqT, startW, wipeW, cName, cTup, cCons, cNil, oIntX, oInt, oAbs, oMin2, oGt, oGe, oLt, oLe, oMod, oFdiv, oSub, oIAdd, Res.bind_ok, Res.toS_ok, noX_okk, List.map_cons, List.map_nil, List.cons_append, List.nil_append, List.append_nil, List.getElem?_cons_zero, List.getElem?_cons_succ, List.set_cons_zero, List.set_cons_succ, List.length_cons, List.length_nil, List.replicate, Nat.reduceAdd, Nat.reduceSub, Nat.add_eq, Nat.add_zero, Nat.sub_self, if_true, if_false, Bool.false_eq_true, reduceIte, Option.getD_some, o_addI, o_slT, o_slS, o_slL, o_lenS, o_lenT, o_lenL, o_lenSc, o_tupS, o_tupL, o_tupT, o_ixT0, o_ixT1, o_ixT2, o_ixL0, o_ixL1, ty_str, sizeLine_eq, Nat.reduceLeDiff, Nat.zero_le, Nat.reduceLT, Int.reduceLT, Int.reduceLE, Int.reduceNeg, and_self, and_true, true_and, Int.reduceToNat], ?_, fun _ => by simp -implicitDefEqProofs only [OkS.ret, OkS.seq, OkS.asg, OkS.exp, OkS.ite, OkS.skip, OkS.brk, OkS.cnt, OkS.for, OkS.while, OkE.bnd, OkE.toS, OkE.ok, OkE.nox, OkE.comp, OkS.nxt, OkS.rtn, mIf, mTest, mBin, mVar, mC, mCall, mCons, mNil, mStar, mSl, mPart, mNoPart, mMeth, mMeth0, mTup, mLst, mLstR, mNeg, mNot, mAnd, mOr, mAndV, mOrV, mNotV, mYes, mRng1, mWk, mEnum, mEnumZip, mZip, mFn, mPar, mPar3, mAug, mIsi, mExpr, gSet, gTupW, gConsW, gNilW, gPut, seqT, startW, wipeW, cName, cTup, cCons, cNil, oIntX, oInt, oAbs, oMin2, oGt, oGe, oLt, oLe, oMod, oFdiv, oSub, oIAdd, Res.bind_ok, Res.toS_ok, noX_okk, List.map_cons, List.map_nil, List.cons_append, List.nil_append, List.append_nil, List.getElem?_cons_zero, List.getElem?_cons_succ, List.set_cons_zero, List.set_cons_succ, List.length_cons, List.length_nil, List.replicate, Nat.reduceAdd, Nat.reduceSub, Nat.add_eq, Nat.add_zero, Nat.sub_self, if_true, if_false, Bool.false_eq_true, reduceIte, Option.getD_some, o_addI, o_slT, o_slS, o_slL, o_lenS, o_lenT, o_lenL, o_lenSc, o_tupS, o_tupL, o_tupT, o_ixT0, o_ixT1, o_ixT2, o_ixL0, o_ixL1, ty_str, sizeLine_eq, Nat.reduceLeDiff, Nat.zero_le, Nat.reduceLT, Int.reduceLT, Int.reduceLE, Int.reduceNeg, and_self, and_true, true_and, Int.reduceToNat]⟩) ?_
      · simp -implicitDefEqProofs only [OkS.ret, OkS.seq, OkS.asg, OkS.exp, OkS.ite, OkS.skip, OkS.brk, OkS.cnt, OkS.for, OkS.while, OkE.bnd, OkE.toS, OkE.ok, OkE.nox, OkE.comp, OkS.nxt, OkS.rtn, mIf, mTest, mBin, mVar, mC, mCall, mCons, mNil, mStar, mSl, mPart, mNoPart, mMeth, mMeth0, mTup, mLst, mLstR, mNeg, mNot, mAnd, mOr, mAndV, mOrV, mNotV, mYes, mRng1, mWk, mEnum, mEnumZip, mZip, mFn, mPar, mPar3, mAug, mIsi, mExpr, gSet, gTupW, gConsW, gNilW, gPut, seqT, startW, wipeW, cName, cTup, cCons, cNil, oIntX, oInt, oAbs, oMin2, oGt, oGe, oLt, oLe, oMod, oFdiv, oSub, oIAdd, Res.bind_ok, Res.toS_ok, noX_okk, List.map_cons, List.map_nil, List.cons_append, List.nil_append, List.append_nil, List.getElem?_cons_zero, List.getElem?_cons_succ, List.set_cons_zero, List.set_cons_succ, List.length_cons, List.length_nil, List.replicate, Nat.reduceAdd, Nat.reduceSub, Nat.add_eq, Nat.add_zero, Nat.sub_self, if_true, if_false, Bool.false_eq_true, reduceIte, Option.getD_some, o_addI, o_slT, o_slS, o_slL, o_lenS, o_lenT, o_lenL, o_lenSc, o_tupS, o_tupL, o_tupT, o_ixT0, o_ixT1, o_ixT2, o_ixL0, o_ixL1, ty_str, sizeLine_eq, Nat.reduceLeDiff, Nat.zero_le, Nat.reduceLT, Int.reduceLT, Int.reduceLE, Int.reduceNeg, and_self, and_true, true_and, Int.reduceToNat, nin_str]
      · refine ⟨some (.str s), ?_, rfl⟩
        rw [List.foldl_append]
        rfl
    · rintro τ S ⟨x5, rfl, rfl⟩
      exact ⟨_, rfl, rfl⟩
  rintro τ S ⟨x5, rfl, rfl⟩
  obtain ⟨hp1, hp2⟩ := plans_ok name.length hn.mem
  generalize plansOf name.length = pl at hp1 hp2
  have hpl : 0 < pl.length := List.length_pos_iff.mpr hp2
  -- the plan
  refine OkS.cut (fun τ S => ∃ p ns', planOk name.length p = true ∧ τ = [some (.ref 0), some (.str name), some (.int (most : Nat)), some (.int 8), some (.lst (pl.map W.str)), x5, some (.lst ((Txt.words p).map W.str)), none, none, none, none, none, none, none, none, none] ∧ S = [rowO ns']) ?_ ?_
  · simp -implicitDefEqProofs only [OkS.ret, OkS.seq, OkS.asg, OkS.exp, OkS.ite, OkS.skip, OkS.brk, OkS.cnt, OkS.for, OkS.while, OkE.bnd, OkE.toS, OkE.ok, OkE.nox, OkE.comp, OkS.nxt, OkS.rtn, mIf, mTest, mBin, mVar, mC, mCall, mCons, mNil, mStar, mSl, mPart, mNoPart, mMeth, mMeth0, mTup, mLst, mLstR, mNeg, mNot, mAnd, mOr, mAndV, mOrV, mNotV, mYes, mRng1, mWk, mEnum, mEnumZip, mZip, mFn, mPar, mPar3, mAug, mIsi, mExpr, gSet, gTupW, gConsW, gNilW, gPut, seqT, startW, wipeW, cName, cTup, cCons, cNil, oIntX, oInt, oAbs, oMin2, oGt, oGe, oLt, oLe, oMod, oFdiv, oSub, oIAdd, Res.bind_ok, Res.toS_ok, noX_okk, List.map_cons, List.map_nil, List.cons_append, List.nil_append, List.append_nil, List.getElem?_cons_zero, List.getElem?_cons_succ, List.set_cons_zero, List.set_cons_succ, List.length_cons, List.length_nil, List.replicate, Nat.reduceAdd, Nat.reduceSub, Nat.add_eq, Nat.add_zero, Nat.sub_self, if_true, if_false, Bool.false_eq_true, reduceIte, Option.getD_some, o_addI, o_slT, o_slS, o_slL, o_lenS, o_lenT, o_lenL, o_lenSc, o_tupS, o_tupL, o_tupT, o_ixT0, o_ixT1, o_ixT2, o_ixL0, o_ixL1, ty_str, sizeLine_eq, Nat.reduceLeDiff, Nat.zero_le, Nat.reduceLT, Int.reduceLT, Int.reduceLE, Int.reduceNeg, and_self, and_true, true_and, Int.reduceToNat, List.length_map]
    refine take_ok (by omega) fun r ns' hr => ?_
    have hr : r < pl.length := by omega
    rw [o_ixL (xs := pl.map W.str) (x := .str pl[r]) (by rw [atI_n, List.getElem?_map, List.getElem?_eq_getElem hr]; rfl)]
    have hpk := List.all_eq_true.mp hp1 pl[r] (List.getElem_mem hr)
    generalize pl[r] = p at hpk
    have hpk' := hpk
    unfold planOk at hpk'
    simp only [Bool.and_eq_true, decide_eq_true_eq] at hpk'
    have ew : ∀ S, oWords (.str p) [] S = .ok (.lst ((Txt.words p).map W.str)) S := fun S => by
      unfold oWords
      simp only
      rw [if_pos ⟨by rw [sizeLine_eq]; omega, hpk'.1.1.2⟩]
    simp -implicitDefEqProofs only [OkS.ret, OkS.seq, OkS.asg, OkS.exp, OkS.ite, OkS.skip, OkS.brk, OkS.cnt, OkS.for, OkS.while, OkE.bnd, OkE.toS, OkE.ok, OkE.nox, OkE.comp, OkS.nxt, OkS.rtn, mIf, mTest, mBin, mVar, mC, mCall, mCons, mNil, mStar, mSl, mPart, mNoPart, mMeth, mMeth0, mTup, mLst, mLstR, mNeg, mNot, mAnd, mOr, mAndV, mOrV, mNotV, mYes, mRng1, mWk, mEnum, mEnumZip, mZip, mFn, mPar, mPar3, mAug, mIsi, mExpr, gSet, gTupW, gConsW, gNilW, gPut, seqT, startW, wipeW, cName, cTup, cCons, cNil, oIntX, oInt, oAbs, oMin2, oGt, oGe, oLt, oLe, oMod, oFdiv, oSub, oIAdd, Res.bind_ok, Res.toS_ok, noX_okk, List.map_cons, List.map_nil, List.cons_append, List.nil_append, List.append_nil, List.getElem?_cons_zero, List.getElem?_cons_succ, List.set_cons_zero, List.set_cons_succ, List.length_cons, List.length_nil, List.replicate, Nat.reduceAdd, Nat.reduceSub, Nat.add_eq, Nat.add_zero, Nat.sub_self, if_true, if_false, Bool.false_eq_true, reduceIte, Option.getD_some, o_addI, o_slT, o_slS, o_slL, o_lenS, o_lenT, o_lenL, o_lenSc, o_tupS, o_tupL, o_tupT, o_ixT0, o_ixT1, o_ixT2, o_ixL0, o_ixL1, ty_str, sizeLine_eq, Nat.reduceLeDiff, Nat.zero_le, Nat.reduceLT, Int.reduceLT, Int.reduceLE, Int.reduceNeg, and_self, and_true, true_and, Int.reduceToNat, ew]
    exact ⟨p, ns', hpk, rfl, rfl⟩
  rintro τ S ⟨p, ns1, hpk, rfl, rfl⟩
  unfold planOk at hpk
  simp only [Bool.and_eq_true, decide_eq_true_eq] at hpk
  obtain ⟨⟨⟨_, _⟩, hw6⟩, hws⟩ := hpk
  generalize Txt.words p = ws at hw6 hws
  -- its words
  refine OkS.cut (fun τ S => τ = [some (.ref 0), some (.str name), some (.int (most : Nat)), some (.int 8), some (.lst (pl.map W.str)), x5, some (.lst (ws.map W.str)), some (.ref 1), none, none, none, none, none, none, none, none] ∧ S = st2 ns1 []) ?_ ?_
  · simp -implicitDefEqProofs only [OkS.ret, OkS.seq, OkS.asg, OkS.exp, OkS.ite, OkS.skip, OkS.brk, OkS.cnt, OkS.for, OkS.while, OkE.bnd, OkE.toS, OkE.ok, OkE.nox, OkE.comp, OkS.nxt, OkS.rtn, mIf, mTest, mBin, mVar, mC, mCall, mCons, mNil, mStar, mSl, mPart, mNoPart, mMeth, mMeth0, mTup, mLst, mLstR, mNeg, mNot, mAnd, mOr, mAndV, mOrV, mNotV, mYes, mRng1, mWk, mEnum, mEnumZip, mZip, mFn, mPar, mPar3, mAug, mIsi, mExpr, gSet, gTupW, gConsW, gNilW, gPut, seqT, startW, wipeW, cName, cTup, cCons, cNil, oIntX, oInt, oAbs, oMin2, oGt, oGe, oLt, oLe, oMod, oFdiv, oSub, oIAdd, Res.bind_ok, Res.toS_ok, noX_okk, List.map_cons, List.map_nil, List.cons_append, List.nil_append, List.append_nil, List.getElem?_cons_zero, List.getElem?_cons_succ, List.set_cons_zero, List.set_cons_succ, List.length_cons, List.length_nil, List.replicate, Nat.reduceAdd, Nat.reduceSub, Nat.add_eq, Nat.add_zero, Nat.sub_self, if_true, if_false, Bool.false_eq_true, reduceIte, Option.getD_some, o_addI, o_slT, o_slS, o_slL, o_lenS, o_lenT, o_lenL, o_lenSc, o_tupS, o_tupL, o_tupT, o_ixT0, o_ixT1, o_ixT2, o_ixL0, o_ixL1, ty_str, sizeLine_eq, Nat.reduceLeDiff, Nat.zero_le, Nat.reduceLT, Int.reduceLT, Int.reduceLE, Int.reduceNeg, and_self, and_true, true_and, Int.reduceToNat]
    first
      | exact ⟨rfl, rfl⟩
      | exact rfl
  rintro τ S ⟨rfl, rfl⟩
  refine OkS.cut (fun τ S => ∃ rs x8 x9, RulesOk rs ∧ rs.length ≤ 6 ∧ τ = [some (.ref 0), some (.str name), some (.int (most : Nat)), some (.int 8), some (.lst (pl.map W.str)), x5, some (.lst (ws.map W.str)), some (.ref 1), x8, x9, none, none, none, none, none, none] ∧ S = st2 ns1 rs) ?_ ?_
  · simp -implicitDefEqProofs only [OkS.ret, OkS.seq, OkS.asg, OkS.exp, OkS.ite, OkS.skip, OkS.brk, OkS.cnt, OkS.for, OkS.while, OkE.bnd, OkE.toS, OkE.ok, OkE.nox, OkE.comp, OkS.nxt, OkS.rtn, mIf, mTest, mBin, mVar, mC, mCall, mCons, mNil, mStar, mSl, mPart, mNoPart, mMeth, mMeth0, mTup, mLst, mLstR, mNeg, mNot, mAnd, mOr, mAndV, mOrV, mNotV, mYes, mRng1, mWk, mEnum, mEnumZip, mZip, mFn, mPar, mPar3, mAug, mIsi, mExpr, gSet, gTupW, gConsW, gNilW, gPut, seqT, startW, wipeW, cName, cTup, cCons, cNil, oIntX, oInt, oAbs, oMin2, oGt, oGe, oLt, oLe, oMod, oFdiv, oSub, oIAdd, Res.bind_ok, Res.toS_ok, noX_okk, List.map_cons, List.map_nil, List.cons_append, List.nil_append, List.append_nil, List.getElem?_cons_zero, List.getElem?_cons_succ, List.set_cons_zero, List.set_cons_succ, List.length_cons, List.length_nil, List.replicate, Nat.reduceAdd, Nat.reduceSub, Nat.add_eq, Nat.add_zero, Nat.sub_self, if_true, if_false, Bool.false_eq_true, reduceIte, Option.getD_some, o_addI, o_slT, o_slS, o_slL, o_lenS, o_lenT, o_lenL, o_lenSc, o_tupS, o_tupL, o_tupT, o_ixT0, o_ixT1, o_ixT2, o_ixL0, o_ixL1, ty_str, sizeLine_eq, Nat.reduceLeDiff, Nat.zero_le, Nat.reduceLT, Int.reduceLT, Int.reduceLE, Int.reduceNeg, and_self, and_true, true_and, Int.reduceToNat]
    refine for_map (fun pre τ S => ∃ rs x8 x9, RulesOk rs ∧ rs.length ≤ pre.length ∧ τ = [some (.ref 0), some (.str name), some (.int (most : Nat)), some (.int 8), some (.lst (pl.map W.str)), x5, some (.lst (ws.map W.str)), some (.ref 1), x8, x9, none, none, none, none, none, none] ∧ S = st2 ns1 rs) ⟨[], _, _, fun p hp => (by cases hp), Nat.le_refl _, rfl, rfl⟩ ?_ ?_
    · rintro pre w post τ S e ⟨rs, x8, x9, hr, hl, rfl, rfl⟩
      have hpl6 : pre.length ≤ 6 := by
        have := congrArg List.length e
        simp at this
        omega
      simp -implicitDefEqProofs only [OkS.ret, OkS.seq, OkS.asg, OkS.exp, OkS.ite, OkS.skip, OkS.brk, OkS.cnt, OkS.for, OkS.while, OkE.bnd, OkE.toS, OkE.ok, OkE.nox, OkE.comp, OkS.nxt, OkS.rtn, mIf, mTest, mBin, mVar, mC, mCall, mCons, mNil, mStar, mSl, mPart, mNoPart, mMeth, mMeth0, mTup, mLst, mLstR, mNeg, mNot, mAnd, mOr, mAndV, mOrV, mNotV, mYes, mRng1, mWk, mEnum, mEnumZip, mZip, mFn, mPar, mPar3, mAug, mIsi, mExpr, gSet, gTupW, gConsW, gNilW, gPut, seqT, startW, wipeW, cName, cTup, cCons, cNil, oIntX, oInt, oAbs, oMin2, oGt, oGe, oLt, oLe, oMod, oFdiv, oSub, oIAdd, Res.bind_ok, Res.toS_ok, noX_okk, List.map_cons, List.map_nil, List.cons_append, List.nil_append, List.append_nil, List.getElem?_cons_zero, List.getElem?_cons_succ, List.set_cons_zero, List.set_cons_succ, List.length_cons, List.length_nil, List.replicate, Nat.reduceAdd, Nat.reduceSub, Nat.add_eq, Nat.add_zero, Nat.sub_self, if_true, if_false, Bool.false_eq_true, reduceIte, Option.getD_some, o_addI, o_slT, o_slS, o_slL, o_lenS, o_lenT, o_lenL, o_lenSc, o_tupS, o_tupL, o_tupT, o_ixT0, o_ixT1, o_ixT2, o_ixL0, o_ixL1, ty_str, sizeLine_eq, Nat.reduceLeDiff, Nat.zero_le, Nat.reduceLT, Int.reduceLT, Int.reduceLE, Int.reduceNeg, and_self, and_true, true_and, Int.reduceToNat, ne_str]
      by_cases hst : w = "*"
      · simp -implicitDefEqProofs only [OkS.ret, OkS.seq, OkS.asg, OkS.exp, OkS.ite, OkS.skip, OkS.brk, OkS.cnt, OkS.for, OkS.while, OkE.bnd, OkE.toS, OkE.ok, OkE.nox, OkE.comp, OkS.nxt, OkS.rtn, mIf, mTest, mBin, mVar, mC, mCall, mCons, mNil, mStar, mSl, mPart, mNoPart, mMeth, mMeth0, mTup, mLst, mLstR, mNeg, mNot, mAnd, mOr, mAndV, mOrV, mNotV, mYes, mRng1, mWk, mEnum, mEnumZip, mZip, mFn, mPar, mPar3, mAug, mIsi, mExpr, gSet, gTupW, gConsW, gNilW, gPut, seqT, startW, wipeW, cName, cTup, cCons, cNil, oIntX, oInt, oAbs, oMin2, oGt, oGe, oLt, oLe, oMod, oFdiv, oSub, oIAdd, Res.bind_ok, Res.toS_ok, noX_okk, List.map_cons, List.map_nil, List.cons_append, List.nil_append, List.append_nil, List.getElem?_cons_zero, List.getElem?_cons_succ, List.set_cons_zero, List.set_cons_succ, List.length_cons, List.length_nil, List.replicate, Nat.reduceAdd, Nat.reduceSub, Nat.add_eq, Nat.add_zero, Nat.sub_self, if_true, if_false, Bool.false_eq_true, reduceIte, Option.getD_some, o_addI, o_slT, o_slS, o_slL, o_lenS, o_lenT, o_lenL, o_lenSc, o_tupS, o_tupL, o_tupT, o_ixT0, o_ixT1, o_ixT2, o_ixL0, o_ixL1, ty_str, sizeLine_eq, Nat.reduceLeDiff, Nat.zero_le, Nat.reduceLT, Int.reduceLT, Int.reduceLE, Int.reduceNeg, and_self, and_true, true_and, Int.reduceToNat, hst, decide_true, Bool.not_true]
        exact ⟨rs, _, _, hr, by rw [List.length_append]; omega, rfl, rfl⟩
      · have hwk := List.all_eq_true.mp hws w (by rw [e]; simp)
        unfold wordOk at hwk
        simp only [hst, decide_false, Bool.false_or, Bool.and_eq_true, decide_eq_true_eq] at hwk
        obtain ⟨⟨hw1, hw2⟩, hw3⟩ := hwk
        have es : ∀ S, oSplit (.str w) [.str "."] S = .ok (.lst ((Txt.split w ".").map W.str)) S := fun S => by
          unfold oSplit
          simp only
          rw [if_pos ⟨by decide +kernel, by rw [sizeLine_eq]; omega, hw2⟩]
        match hsp : Txt.split w "." with
        | [a, b] =>
          rw [hsp] at hw3
          simp only [Bool.and_eq_true] at hw3
          obtain ⟨x, gx, ex⟩ := word_eq (S := st2 ns1 rs) hn hw3.1
          obtain ⟨y, gy, ey⟩ := word_eq (S := st2 ns1 rs) hn hw3.2
          simp -implicitDefEqProofs only [OkS.ret, OkS.seq, OkS.asg, OkS.exp, OkS.ite, OkS.skip, OkS.brk, OkS.cnt, OkS.for, OkS.while, OkE.bnd, OkE.toS, OkE.ok, OkE.nox, OkE.comp, OkS.nxt, OkS.rtn, mIf, mTest, mBin, mVar, mC, mCall, mCons, mNil, mStar, mSl, mPart, mNoPart, mMeth, mMeth0, mTup, mLst, mLstR, mNeg, mNot, mAnd, mOr, mAndV, mOrV, mNotV, mYes, mRng1, mWk, mEnum, mEnumZip, mZip, mFn, mPar, mPar3, mAug, mIsi, mExpr, gSet, gTupW, gConsW, gNilW, gPut, seqT, startW, wipeW, cName, cTup, cCons, cNil, oIntX, oInt, oAbs, oMin2, oGt, oGe, oLt, oLe, oMod, oFdiv, oSub, oIAdd, Res.bind_ok, Res.toS_ok, noX_okk, List.map_cons, List.map_nil, List.cons_append, List.nil_append, List.append_nil, List.getElem?_cons_zero, List.getElem?_cons_succ, List.set_cons_zero, List.set_cons_succ, List.length_cons, List.length_nil, List.replicate, Nat.reduceAdd, Nat.reduceSub, Nat.add_eq, Nat.add_zero, Nat.sub_self, if_true, if_false, Bool.false_eq_true, reduceIte, Option.getD_some, o_addI, o_slT, o_slS, o_slL, o_lenS, o_lenT, o_lenL, o_lenSc, o_tupS, o_tupL, o_tupT, o_ixT0, o_ixT1, o_ixT2, o_ixL0, o_ixL1, ty_str, sizeLine_eq, Nat.reduceLeDiff, Nat.zero_le, Nat.reduceLT, Int.reduceLT, Int.reduceLE, Int.reduceNeg, and_self, and_true, true_and, Int.reduceToNat, hst, decide_false, Bool.not_false, es, hsp, ty_ref (S := st2 ns1 rs) (n := 1) (xs := rs.map ruleW) rfl, ex, ey]
          rw [o_app (xs := rs.map ruleW) rfl (by rw [List.length_map, sizeLine_eq]; omega), OkE.ok]
          refine ⟨rs ++ [(x, y)], _, _, fun q hq => ?_, by rw [List.length_append, List.length_append]; simp; omega, rfl, ?_⟩
          · rcases List.mem_append.mp hq with z | z
            · exact hr q z
            · have : q = (x, y) := by simpa using z
              subst this
              exact ⟨gx, gy⟩
          · simp [st2, ruleW]
        | [] => rw [hsp] at hw3; cases hw3
        | [_] => rw [hsp] at hw3; cases hw3
        | _ :: _ :: _ :: _ => rw [hsp] at hw3; cases hw3
    · rintro τ S ⟨rs, x8, x9, hr, hl, rfl, rfl⟩
      exact ⟨rs, _, _, hr, by omega, rfl, rfl⟩
  rintro τ S ⟨rs0, x8, x9, hr0, hl0, rfl, rfl⟩
  -- the mode
  refine OkS.cut (fun τ S => ∃ (mode many : Nat) (ns' : List Int), many ≤ 5 ∧ τ = [some (.ref 0), some (.str name), some (.int (most : Nat)), some (.int 8), some (.lst (pl.map W.str)), x5, some (.lst (ws.map W.str)), some (.ref 1), x8, x9, some (.int (mode : Nat)), some (.int (many : Nat)), none, none, none, none] ∧ S = st2 ns' rs0) ?_ ?_
  · simp -implicitDefEqProofs only [OkS.ret, OkS.seq, OkS.asg, OkS.exp, OkS.ite, OkS.skip, OkS.brk, OkS.cnt, OkS.for, OkS.while, OkE.bnd, OkE.toS, OkE.ok, OkE.nox, OkE.comp, OkS.nxt, OkS.rtn, mIf, mTest, mBin, mVar, mC, mCall, mCons, mNil, mStar, mSl, mPart, mNoPart, mMeth, mMeth0, mTup, mLst, mLstR, mNeg, mNot, mAnd, mOr, mAndV, mOrV, mNotV, mYes, mRng1, mWk, mEnum, mEnumZip, mZip, mFn, mPar, mPar3, mAug, mIsi, mExpr, gSet, gTupW, gConsW, gNilW, gPut, seqT, startW, wipeW, cName, cTup, cCons, cNil, oIntX, oInt, oAbs, oMin2, oGt, oGe, oLt, oLe, oMod, oFdiv, oSub, oIAdd, Res.bind_ok, Res.toS_ok, noX_okk, List.map_cons, List.map_nil, List.cons_append, List.nil_append, List.append_nil, List.getElem?_cons_zero, List.getElem?_cons_succ, List.set_cons_zero, List.set_cons_succ, List.length_cons, List.length_nil, List.replicate, Nat.reduceAdd, Nat.reduceSub, Nat.add_eq, Nat.add_zero, Nat.sub_self, if_true, if_false, Bool.false_eq_true, reduceIte, Option.getD_some, o_addI, o_slT, o_slS, o_slL, o_lenS, o_lenT, o_lenL, o_lenSc, o_tupS, o_tupL, o_tupT, o_ixT0, o_ixT1, o_ixT2, o_ixL0, o_ixL1, ty_str, sizeLine_eq, Nat.reduceLeDiff, Nat.zero_le, Nat.reduceLT, Int.reduceLT, Int.reduceLE, Int.reduceNeg, and_self, and_true, true_and, Int.reduceToNat]
    refine take_ok (by omega) fun r1 ns2 hr1 => ?_
    try simp -implicitDefEqProofs only [OkS.ret, OkS.seq, OkS.asg, OkS.exp, OkS.ite, OkS.skip, OkS.brk, OkS.cnt, OkS.for, OkS.while, OkE.bnd, OkE.toS, OkE.ok, OkE.nox, OkE.comp, OkS.nxt, OkS.rtn, mIf, mTest, mBin, mVar, mC, mCall, mCons, mNil, mStar, mSl, mPart, mNoPart, mMeth, mMeth0, mTup, mLst, mLstR, mNeg, mNot, mAnd, mOr, mAndV, mOrV, mNotV, mYes, mRng1, mWk, mEnum, mEnumZip, mZip, mFn, mPar, mPar3, mAug, mIsi, mExpr, gSet, gTupW, gConsW, gNilW, gPut, seqT, startW, wipeW, cName, cTup, cCons, cNil, oIntX, oInt, oAbs, oMin2, oGt, oGe, oLt, oLe, oMod, oFdiv, oSub, oIAdd, Res.bind_ok, Res.toS_ok, noX_okk, List.map_cons, List.map_nil, List.cons_append, List.nil_append, List.append_nil, List.getElem?_cons_zero, List.getElem?_cons_succ, List.set_cons_zero, List.set_cons_succ, List.length_cons, List.length_nil, List.replicate, Nat.reduceAdd, Nat.reduceSub, Nat.add_eq, Nat.add_zero, Nat.sub_self, if_true, if_false, Bool.false_eq_true, reduceIte, Option.getD_some, o_addI, o_slT, o_slS, o_slL, o_lenS, o_lenT, o_lenL, o_lenSc, o_tupS, o_tupL, o_tupT, o_ixT0, o_ixT1, o_ixT2, o_ixL0, o_ixL1, ty_str, sizeLine_eq, Nat.reduceLeDiff, Nat.zero_le, Nat.reduceLT, Int.reduceLT, Int.reduceLE, Int.reduceNeg, and_self, and_true, true_and, Int.reduceToNat]
    refine take_ok (by omega) fun r2 ns3 hr2 => ?_
    simp -implicitDefEqProofs only [OkS.ret, OkS.seq, OkS.asg, OkS.exp, OkS.ite, OkS.skip, OkS.brk, OkS.cnt, OkS.for, OkS.while, OkE.bnd, OkE.toS, OkE.ok, OkE.nox, OkE.comp, OkS.nxt, OkS.rtn, mIf, mTest, mBin, mVar, mC, mCall, mCons, mNil, mStar, mSl, mPart, mNoPart, mMeth, mMeth0, mTup, mLst, mLstR, mNeg, mNot, mAnd, mOr, mAndV, mOrV, mNotV, mYes, mRng1, mWk, mEnum, mEnumZip, mZip, mFn, mPar, mPar3, mAug, mIsi, mExpr, gSet, gTupW, gConsW, gNilW, gPut, seqT, startW, wipeW, cName, cTup, cCons, cNil, oIntX, oInt, oAbs, oMin2, oGt, oGe, oLt, oLe, oMod, oFdiv, oSub, oIAdd, Res.bind_ok, Res.toS_ok, noX_okk, List.map_cons, List.map_nil, List.cons_append, List.nil_append, List.append_nil, List.getElem?_cons_zero, List.getElem?_cons_succ, List.set_cons_zero, List.set_cons_succ, List.length_cons, List.length_nil, List.replicate, Nat.reduceAdd, Nat.reduceSub, Nat.add_eq, Nat.add_zero, Nat.sub_self, if_true, if_false, Bool.false_eq_true, reduceIte, Option.getD_some, o_addI, o_slT, o_slS, o_slL, o_lenS, o_lenT, o_lenL, o_lenSc, o_tupS, o_tupL, o_tupT, o_ixT0, o_ixT1, o_ixT2, o_ixL0, o_ixL1, ty_str, sizeLine_eq, Nat.reduceLeDiff, Nat.zero_le, Nat.reduceLT, Int.reduceLT, Int.reduceLE, Int.reduceNeg, and_self, and_true, true_and, Int.reduceToNat]
    exact ⟨r1, 2 + r2, ns3, by omega, by rw [show (2 : Int) + (r2 : Nat) = ((2 + r2 : Nat) : Int) by omega], rfl⟩
  rintro τ S ⟨mode, many, ns2, hmany, rfl, rfl⟩
  -- grown ones
  refine OkS.cut (fun τ S => ∃ v rs ns', IsL rs0 v rs ∧ RulesOk rs ∧ rs.length ≤ 20 ∧ τ = [some (.ref 0), some (.str name), some (.int (most : Nat)), some (.int 8), some (.lst (pl.map W.str)), x5, some (.lst (ws.map W.str)), some v, x8, x9, some (.int (mode : Nat)), some (.int (many : Nat)), none, none, none, none] ∧ S = st2 ns' rs0) ?_ ?_
  · have estar : ∀ S, oEq (.lst (ws.map W.str)) (.lst [W.str "*"]) S = .ok (.bl (decide (ws = (["*"] : List Str)))) S := fun S => eq_strs (b := (["*"] : List Str))
    simp -implicitDefEqProofs only [OkS.ret, OkS.seq, OkS.asg, OkS.exp, OkS.ite, OkS.skip, OkS.brk, OkS.cnt, OkS.for, OkS.while, OkE.bnd, OkE.toS, OkE.ok, OkE.nox, OkE.comp, OkS.nxt, OkS.rtn, mIf, mTest, mBin, mVar, mC, mCall, mCons, mNil, mStar, mSl, mPart, mNoPart, mMeth, mMeth0, mTup, mLst, mLstR, mNeg, mNot, mAnd, mOr, mAndV, mOrV, mNotV, mYes, mRng1, mWk, mEnum, mEnumZip, mZip, mFn, mPar, mPar3, mAug, mIsi, mExpr, gSet, gTupW, gConsW, gNilW, gPut, seqT, startW, wipeW, cName, cTup, cCons, cNil, oIntX, oInt, oAbs, oMin2, oGt, oGe, oLt, oLe, oMod, oFdiv, oSub, oIAdd, Res.bind_ok, Res.toS_ok, noX_okk, List.map_cons, List.map_nil, List.cons_append, List.nil_append, List.append_nil, List.getElem?_cons_zero, List.getElem?_cons_succ, List.set_cons_zero, List.set_cons_succ, List.length_cons, List.length_nil, List.replicate, Nat.reduceAdd, Nat.reduceSub, Nat.add_eq, Nat.add_zero, Nat.sub_self, if_true, if_false, Bool.false_eq_true, reduceIte, Option.getD_some, o_addI, o_slT, o_slS, o_slL, o_lenS, o_lenT, o_lenL, o_lenSc, o_tupS, o_tupL, o_tupT, o_ixT0, o_ixT1, o_ixT2, o_ixL0, o_ixL1, ty_str, sizeLine_eq, Nat.reduceLeDiff, Nat.zero_le, Nat.reduceLT, Int.reduceLT, Int.reduceLE, Int.reduceNeg, and_self, and_true, true_and, Int.reduceToNat, estar]
    by_cases h1 : ws = (["*"] : List Str)
    · simp -implicitDefEqProofs only [OkS.ret, OkS.seq, OkS.asg, OkS.exp, OkS.ite, OkS.skip, OkS.brk, OkS.cnt, OkS.for, OkS.while, OkE.bnd, OkE.toS, OkE.ok, OkE.nox, OkE.comp, OkS.nxt, OkS.rtn, mIf, mTest, mBin, mVar, mC, mCall, mCons, mNil, mStar, mSl, mPart, mNoPart, mMeth, mMeth0, mTup, mLst, mLstR, mNeg, mNot, mAnd, mOr, mAndV, mOrV, mNotV, mYes, mRng1, mWk, mEnum, mEnumZip, mZip, mFn, mPar, mPar3, mAug, mIsi, mExpr, gSet, gTupW, gConsW, gNilW, gPut, seqT, startW, wipeW, cName, cTup, cCons, cNil, oIntX, oInt, oAbs, oMin2, oGt, oGe, oLt, oLe, oMod, oFdiv, oSub, oIAdd, Res.bind_ok, Res.toS_ok, noX_okk, List.map_cons, List.map_nil, List.cons_append, List.nil_append, List.append_nil, List.getElem?_cons_zero, List.getElem?_cons_succ, List.set_cons_zero, List.set_cons_succ, List.length_cons, List.length_nil, List.replicate, Nat.reduceAdd, Nat.reduceSub, Nat.add_eq, Nat.add_zero, Nat.sub_self, if_true, if_false, Bool.false_eq_true, reduceIte, Option.getD_some, o_addI, o_slT, o_slS, o_slL, o_lenS, o_lenT, o_lenL, o_lenSc, o_tupS, o_tupL, o_tupT, o_ixT0, o_ixT1, o_ixT2, o_ixL0, o_ixL1, ty_str, sizeLine_eq, Nat.reduceLeDiff, Nat.zero_le, Nat.reduceLT, Int.reduceLT, Int.reduceLE, Int.reduceNeg, and_self, and_true, true_and, Int.reduceToNat, h1, decide_true]
      refine grown_ok hn .ref hr0 (by omega) (by omega) fun v' rs' ns' hv hr hl => ?_
      try simp -implicitDefEqProofs only [OkS.ret, OkS.seq, OkS.asg, OkS.exp, OkS.ite, OkS.skip, OkS.brk, OkS.cnt, OkS.for, OkS.while, OkE.bnd, OkE.toS, OkE.ok, OkE.nox, OkE.comp, OkS.nxt, OkS.rtn, mIf, mTest, mBin, mVar, mC, mCall, mCons, mNil, mStar, mSl, mPart, mNoPart, mMeth, mMeth0, mTup, mLst, mLstR, mNeg, mNot, mAnd, mOr, mAndV, mOrV, mNotV, mYes, mRng1, mWk, mEnum, mEnumZip, mZip, mFn, mPar, mPar3, mAug, mIsi, mExpr, gSet, gTupW, gConsW, gNilW, gPut, seqT, startW, wipeW, cName, cTup, cCons, cNil, oIntX, oInt, oAbs, oMin2, oGt, oGe, oLt, oLe, oMod, oFdiv, oSub, oIAdd, Res.bind_ok, Res.toS_ok, noX_okk, List.map_cons, List.map_nil, List.cons_append, List.nil_append, List.append_nil, List.getElem?_cons_zero, List.getElem?_cons_succ, List.set_cons_zero, List.set_cons_succ, List.length_cons, List.length_nil, List.replicate, Nat.reduceAdd, Nat.reduceSub, Nat.add_eq, Nat.add_zero, Nat.sub_self, if_true, if_false, Bool.false_eq_true, reduceIte, Option.getD_some, o_addI, o_slT, o_slS, o_slL, o_lenS, o_lenT, o_lenL, o_lenSc, o_tupS, o_tupL, o_tupT, o_ixT0, o_ixT1, o_ixT2, o_ixL0, o_ixL1, ty_str, sizeLine_eq, Nat.reduceLeDiff, Nat.zero_le, Nat.reduceLT, Int.reduceLT, Int.reduceLE, Int.reduceNeg, and_self, and_true, true_and, Int.reduceToNat]
      exact ⟨v', rs', ns', hv, hr, by omega, rfl, rfl⟩
    · simp -implicitDefEqProofs only [OkS.ret, OkS.seq, OkS.asg, OkS.exp, OkS.ite, OkS.skip, OkS.brk, OkS.cnt, OkS.for, OkS.while, OkE.bnd, OkE.toS, OkE.ok, OkE.nox, OkE.comp, OkS.nxt, OkS.rtn, mIf, mTest, mBin, mVar, mC, mCall, mCons, mNil, mStar, mSl, mPart, mNoPart, mMeth, mMeth0, mTup, mLst, mLstR, mNeg, mNot, mAnd, mOr, mAndV, mOrV, mNotV, mYes, mRng1, mWk, mEnum, mEnumZip, mZip, mFn, mPar, mPar3, mAug, mIsi, mExpr, gSet, gTupW, gConsW, gNilW, gPut, seqT, startW, wipeW, cName, cTup, cCons, cNil, oIntX, oInt, oAbs, oMin2, oGt, oGe, oLt, oLe, oMod, oFdiv, oSub, oIAdd, Res.bind_ok, Res.toS_ok, noX_okk, List.map_cons, List.map_nil, List.cons_append, List.nil_append, List.append_nil, List.getElem?_cons_zero, List.getElem?_cons_succ, List.set_cons_zero, List.set_cons_succ, List.length_cons, List.length_nil, List.replicate, Nat.reduceAdd, Nat.reduceSub, Nat.add_eq, Nat.add_zero, Nat.sub_self, if_true, if_false, Bool.false_eq_true, reduceIte, Option.getD_some, o_addI, o_slT, o_slS, o_slL, o_lenS, o_lenT, o_lenL, o_lenSc, o_tupS, o_tupL, o_tupT, o_ixT0, o_ixT1, o_ixT2, o_ixL0, o_ixL1, ty_str, sizeLine_eq, Nat.reduceLeDiff, Nat.zero_le, Nat.reduceLT, Int.reduceLT, Int.reduceLE, Int.reduceNeg, and_self, and_true, true_and, Int.reduceToNat, h1, decide_false, eq_int]
      by_cases h2 : (mode : Int) = 5
      · simp -implicitDefEqProofs only [OkS.ret, OkS.seq, OkS.asg, OkS.exp, OkS.ite, OkS.skip, OkS.brk, OkS.cnt, OkS.for, OkS.while, OkE.bnd, OkE.toS, OkE.ok, OkE.nox, OkE.comp, OkS.nxt, OkS.rtn, mIf, mTest, mBin, mVar, mC, mCall, mCons, mNil, mStar, mSl, mPart, mNoPart, mMeth, mMeth0, mTup, mLst, mLstR, mNeg, mNot, mAnd, mOr, mAndV, mOrV, mNotV, mYes, mRng1, mWk, mEnum, mEnumZip, mZip, mFn, mPar, mPar3, mAug, mIsi, mExpr, gSet, gTupW, gConsW, gNilW, gPut, seqT, startW, wipeW, cName, cTup, cCons, cNil, oIntX, oInt, oAbs, oMin2, oGt, oGe, oLt, oLe, oMod, oFdiv, oSub, oIAdd, Res.bind_ok, Res.toS_ok, noX_okk, List.map_cons, List.map_nil, List.cons_append, List.nil_append, List.append_nil, List.getElem?_cons_zero, List.getElem?_cons_succ, List.set_cons_zero, List.set_cons_succ, List.length_cons, List.length_nil, List.replicate, Nat.reduceAdd, Nat.reduceSub, Nat.add_eq, Nat.add_zero, Nat.sub_self, if_true, if_false, Bool.false_eq_true, reduceIte, Option.getD_some, o_addI, o_slT, o_slS, o_slL, o_lenS, o_lenT, o_lenL, o_lenSc, o_tupS, o_tupL, o_tupT, o_ixT0, o_ixT1, o_ixT2, o_ixL0, o_ixL1, ty_str, sizeLine_eq, Nat.reduceLeDiff, Nat.zero_le, Nat.reduceLT, Int.reduceLT, Int.reduceLE, Int.reduceNeg, and_self, and_true, true_and, Int.reduceToNat, h1, h2, decide_true, decide_false]
        refine grown_ok (many := 1) hn .ref hr0 (by omega) (by omega) fun v' rs' ns' hv hr hl => ?_
        try simp -implicitDefEqProofs only [OkS.ret, OkS.seq, OkS.asg, OkS.exp, OkS.ite, OkS.skip, OkS.brk, OkS.cnt, OkS.for, OkS.while, OkE.bnd, OkE.toS, OkE.ok, OkE.nox, OkE.comp, OkS.nxt, OkS.rtn, mIf, mTest, mBin, mVar, mC, mCall, mCons, mNil, mStar, mSl, mPart, mNoPart, mMeth, mMeth0, mTup, mLst, mLstR, mNeg, mNot, mAnd, mOr, mAndV, mOrV, mNotV, mYes, mRng1, mWk, mEnum, mEnumZip, mZip, mFn, mPar, mPar3, mAug, mIsi, mExpr, gSet, gTupW, gConsW, gNilW, gPut, seqT, startW, wipeW, cName, cTup, cCons, cNil, oIntX, oInt, oAbs, oMin2, oGt, oGe, oLt, oLe, oMod, oFdiv, oSub, oIAdd, Res.bind_ok, Res.toS_ok, noX_okk, List.map_cons, List.map_nil, List.cons_append, List.nil_append, List.append_nil, List.getElem?_cons_zero, List.getElem?_cons_succ, List.set_cons_zero, List.set_cons_succ, List.length_cons, List.length_nil, List.replicate, Nat.reduceAdd, Nat.reduceSub, Nat.add_eq, Nat.add_zero, Nat.sub_self, if_true, if_false, Bool.false_eq_true, reduceIte, Option.getD_some, o_addI, o_slT, o_slS, o_slL, o_lenS, o_lenT, o_lenL, o_lenSc, o_tupS, o_tupL, o_tupT, o_ixT0, o_ixT1, o_ixT2, o_ixL0, o_ixL1, ty_str, sizeLine_eq, Nat.reduceLeDiff, Nat.zero_le, Nat.reduceLT, Int.reduceLT, Int.reduceLE, Int.reduceNeg, and_self, and_true, true_and, Int.reduceToNat]
        exact ⟨v', rs', ns', hv, hr, by omega, by simp [h2], rfl⟩
      · simp -implicitDefEqProofs only [OkS.ret, OkS.seq, OkS.asg, OkS.exp, OkS.ite, OkS.skip, OkS.brk, OkS.cnt, OkS.for, OkS.while, OkE.bnd, OkE.toS, OkE.ok, OkE.nox, OkE.comp, OkS.nxt, OkS.rtn, mIf, mTest, mBin, mVar, mC, mCall, mCons, mNil, mStar, mSl, mPart, mNoPart, mMeth, mMeth0, mTup, mLst, mLstR, mNeg, mNot, mAnd, mOr, mAndV, mOrV, mNotV, mYes, mRng1, mWk, mEnum, mEnumZip, mZip, mFn, mPar, mPar3, mAug, mIsi, mExpr, gSet, gTupW, gConsW, gNilW, gPut, seqT, startW, wipeW, cName, cTup, cCons, cNil, oIntX, oInt, oAbs, oMin2, oGt, oGe, oLt, oLe, oMod, oFdiv, oSub, oIAdd, Res.bind_ok, Res.toS_ok, noX_okk, List.map_cons, List.map_nil, List.cons_append, List.nil_append, List.append_nil, List.getElem?_cons_zero, List.getElem?_cons_succ, List.set_cons_zero, List.set_cons_succ, List.length_cons, List.length_nil, List.replicate, Nat.reduceAdd, Nat.reduceSub, Nat.add_eq, Nat.add_zero, Nat.sub_self, if_true, if_false, Bool.false_eq_true, reduceIte, Option.getD_some, o_addI, o_slT, o_slS, o_slL, o_lenS, o_lenT, o_lenL, o_lenSc, o_tupS, o_tupL, o_tupT, o_ixT0, o_ixT1, o_ixT2, o_ixL0, o_ixL1, ty_str, sizeLine_eq, Nat.reduceLeDiff, Nat.zero_le, Nat.reduceLT, Int.reduceLT, Int.reduceLE, Int.reduceNeg, and_self, and_true, true_and, Int.reduceToNat, h2, decide_false]
        exact ⟨_, rs0, ns2, .ref, hr0, by omega, rfl, rfl⟩
  rintro τ S ⟨v, rs, ns3, hv, hr, hl, rfl, rfl⟩
  -- turned about
  refine OkS.cut (fun τ S => ∃ v rs ns', IsL rs0 v rs ∧ RulesOk rs ∧ rs.length ≤ 20 ∧ τ = [some (.ref 0), some (.str name), some (.int (most : Nat)), some (.int 8), some (.lst (pl.map W.str)), x5, some (.lst (ws.map W.str)), some v, x8, x9, some (.int (mode : Nat)), some (.int (many : Nat)), none, none, none, none] ∧ S = st2 ns' rs0) ?_ ?_
  · simp -implicitDefEqProofs only [OkS.ret, OkS.seq, OkS.asg, OkS.exp, OkS.ite, OkS.skip, OkS.brk, OkS.cnt, OkS.for, OkS.while, OkE.bnd, OkE.toS, OkE.ok, OkE.nox, OkE.comp, OkS.nxt, OkS.rtn, mIf, mTest, mBin, mVar, mC, mCall, mCons, mNil, mStar, mSl, mPart, mNoPart, mMeth, mMeth0, mTup, mLst, mLstR, mNeg, mNot, mAnd, mOr, mAndV, mOrV, mNotV, mYes, mRng1, mWk, mEnum, mEnumZip, mZip, mFn, mPar, mPar3, mAug, mIsi, mExpr, gSet, gTupW, gConsW, gNilW, gPut, seqT, startW, wipeW, cName, cTup, cCons, cNil, oIntX, oInt, oAbs, oMin2, oGt, oGe, oLt, oLe, oMod, oFdiv, oSub, oIAdd, Res.bind_ok, Res.toS_ok, noX_okk, List.map_cons, List.map_nil, List.cons_append, List.nil_append, List.append_nil, List.getElem?_cons_zero, List.getElem?_cons_succ, List.set_cons_zero, List.set_cons_succ, List.length_cons, List.length_nil, List.replicate, Nat.reduceAdd, Nat.reduceSub, Nat.add_eq, Nat.add_zero, Nat.sub_self, if_true, if_false, Bool.false_eq_true, reduceIte, Option.getD_some, o_addI, o_slT, o_slS, o_slL, o_lenS, o_lenT, o_lenL, o_lenSc, o_tupS, o_tupL, o_tupT, o_ixT0, o_ixT1, o_ixT2, o_ixL0, o_ixL1, ty_str, sizeLine_eq, Nat.reduceLeDiff, Nat.zero_le, Nat.reduceLT, Int.reduceLT, Int.reduceLE, Int.reduceNeg, and_self, and_true, true_and, Int.reduceToNat, eq_int]
    by_cases h2 : (mode : Int) = 3
    · simp -implicitDefEqProofs only [OkS.ret, OkS.seq, OkS.asg, OkS.exp, OkS.ite, OkS.skip, OkS.brk, OkS.cnt, OkS.for, OkS.while, OkE.bnd, OkE.toS, OkE.ok, OkE.nox, OkE.comp, OkS.nxt, OkS.rtn, mIf, mTest, mBin, mVar, mC, mCall, mCons, mNil, mStar, mSl, mPart, mNoPart, mMeth, mMeth0, mTup, mLst, mLstR, mNeg, mNot, mAnd, mOr, mAndV, mOrV, mNotV, mYes, mRng1, mWk, mEnum, mEnumZip, mZip, mFn, mPar, mPar3, mAug, mIsi, mExpr, gSet, gTupW, gConsW, gNilW, gPut, seqT, startW, wipeW, cName, cTup, cCons, cNil, oIntX, oInt, oAbs, oMin2, oGt, oGe, oLt, oLe, oMod, oFdiv, oSub, oIAdd, Res.bind_ok, Res.toS_ok, noX_okk, List.map_cons, List.map_nil, List.cons_append, List.nil_append, List.append_nil, List.getElem?_cons_zero, List.getElem?_cons_succ, List.set_cons_zero, List.set_cons_succ, List.length_cons, List.length_nil, List.replicate, Nat.reduceAdd, Nat.reduceSub, Nat.add_eq, Nat.add_zero, Nat.sub_self, if_true, if_false, Bool.false_eq_true, reduceIte, Option.getD_some, o_addI, o_slT, o_slS, o_slL, o_lenS, o_lenT, o_lenL, o_lenSc, o_tupS, o_tupL, o_tupT, o_ixT0, o_ixT1, o_ixT2, o_ixL0, o_ixL1, ty_str, sizeLine_eq, Nat.reduceLeDiff, Nat.zero_le, Nat.reduceLT, Int.reduceLT, Int.reduceLE, Int.reduceNeg, and_self, and_true, true_and, Int.reduceToNat, h2, decide_true, hv.sl]
      rw [show (some 1 : Option Int) = some ((1 : Nat) : Int) from rfl, cutW_from, cutW_to, ← List.map_drop, ← List.map_take, o_addL (by simp only [List.length_map, List.length_drop, List.length_take, sizeLine_eq]; omega), ← List.map_append]
      simp -implicitDefEqProofs only [OkS.ret, OkS.seq, OkS.asg, OkS.exp, OkS.ite, OkS.skip, OkS.brk, OkS.cnt, OkS.for, OkS.while, OkE.bnd, OkE.toS, OkE.ok, OkE.nox, OkE.comp, OkS.nxt, OkS.rtn, mIf, mTest, mBin, mVar, mC, mCall, mCons, mNil, mStar, mSl, mPart, mNoPart, mMeth, mMeth0, mTup, mLst, mLstR, mNeg, mNot, mAnd, mOr, mAndV, mOrV, mNotV, mYes, mRng1, mWk, mEnum, mEnumZip, mZip, mFn, mPar, mPar3, mAug, mIsi, mExpr, gSet, gTupW, gConsW, gNilW, gPut, seqT, startW, wipeW, cName, cTup, cCons, cNil, oIntX, oInt, oAbs, oMin2, oGt, oGe, oLt, oLe, oMod, oFdiv, oSub, oIAdd, Res.bind_ok, Res.toS_ok, noX_okk, List.map_cons, List.map_nil, List.cons_append, List.nil_append, List.append_nil, List.getElem?_cons_zero, List.getElem?_cons_succ, List.set_cons_zero, List.set_cons_succ, List.length_cons, List.length_nil, List.replicate, Nat.reduceAdd, Nat.reduceSub, Nat.add_eq, Nat.add_zero, Nat.sub_self, if_true, if_false, Bool.false_eq_true, reduceIte, Option.getD_some, o_addI, o_slT, o_slS, o_slL, o_lenS, o_lenT, o_lenL, o_lenSc, o_tupS, o_tupL, o_tupT, o_ixT0, o_ixT1, o_ixT2, o_ixL0, o_ixL1, ty_str, sizeLine_eq, Nat.reduceLeDiff, Nat.zero_le, Nat.reduceLT, Int.reduceLT, Int.reduceLE, Int.reduceNeg, and_self, and_true, true_and, Int.reduceToNat]
      refine ⟨_, rs.drop 1 ++ rs.take 1, ns3, .lst _, fun q hq => ?_, by simp only [List.length_append, List.length_drop, List.length_take]; omega, by simp [h2], rfl⟩
      rcases List.mem_append.mp hq with z | z
      · exact hr q (List.mem_of_mem_drop z)
      · exact hr q (List.mem_of_mem_take z)
    · simp -implicitDefEqProofs only [OkS.ret, OkS.seq, OkS.asg, OkS.exp, OkS.ite, OkS.skip, OkS.brk, OkS.cnt, OkS.for, OkS.while, OkE.bnd, OkE.toS, OkE.ok, OkE.nox, OkE.comp, OkS.nxt, OkS.rtn, mIf, mTest, mBin, mVar, mC, mCall, mCons, mNil, mStar, mSl, mPart, mNoPart, mMeth, mMeth0, mTup, mLst, mLstR, mNeg, mNot, mAnd, mOr, mAndV, mOrV, mNotV, mYes, mRng1, mWk, mEnum, mEnumZip, mZip, mFn, mPar, mPar3, mAug, mIsi, mExpr, gSet, gTupW, gConsW, gNilW, gPut, seqT, startW, wipeW, cName, cTup, cCons, cNil, oIntX, oInt, oAbs, oMin2, oGt, oGe, oLt, oLe, oMod, oFdiv, oSub, oIAdd, Res.bind_ok, Res.toS_ok, noX_okk, List.map_cons, List.map_nil, List.cons_append, List.nil_append, List.append_nil, List.getElem?_cons_zero, List.getElem?_cons_succ, List.set_cons_zero, List.set_cons_succ, List.length_cons, List.length_nil, List.replicate, Nat.reduceAdd, Nat.reduceSub, Nat.add_eq, Nat.add_zero, Nat.sub_self, if_true, if_false, Bool.false_eq_true, reduceIte, Option.getD_some, o_addI, o_slT, o_slS, o_slL, o_lenS, o_lenT, o_lenL, o_lenSc, o_tupS, o_tupL, o_tupT, o_ixT0, o_ixT1, o_ixT2, o_ixL0, o_ixL1, ty_str, sizeLine_eq, Nat.reduceLeDiff, Nat.zero_le, Nat.reduceLT, Int.reduceLT, Int.reduceLE, Int.reduceNeg, and_self, and_true, true_and, Int.reduceToNat, h2, decide_false]
      exact ⟨v, rs, ns3, hv, hr, hl, rfl, rfl⟩
  clear hv hr hl
  rintro τ S ⟨v, rs, ns3, hv, hr, hl, rfl, rfl⟩
  refine OkS.cut (fun τ S => ∃ v rs ns', IsL rs0 v rs ∧ RulesOk rs ∧ rs.length ≤ 20 ∧ τ = [some (.ref 0), some (.str name), some (.int (most : Nat)), some (.int 8), some (.lst (pl.map W.str)), x5, some (.lst (ws.map W.str)), some v, x8, x9, some (.int (mode : Nat)), some (.int (many : Nat)), none, none, none, none] ∧ S = st2 ns' rs0) ?_ ?_
  · simp -implicitDefEqProofs only [OkS.ret, OkS.seq, OkS.asg, OkS.exp, OkS.ite, OkS.skip, OkS.brk, OkS.cnt, OkS.for, OkS.while, OkE.bnd, OkE.toS, OkE.ok, OkE.nox, OkE.comp, OkS.nxt, OkS.rtn, mIf, mTest, mBin, mVar, mC, mCall, mCons, mNil, mStar, mSl, mPart, mNoPart, mMeth, mMeth0, mTup, mLst, mLstR, mNeg, mNot, mAnd, mOr, mAndV, mOrV, mNotV, mYes, mRng1, mWk, mEnum, mEnumZip, mZip, mFn, mPar, mPar3, mAug, mIsi, mExpr, gSet, gTupW, gConsW, gNilW, gPut, seqT, startW, wipeW, cName, cTup, cCons, cNil, oIntX, oInt, oAbs, oMin2, oGt, oGe, oLt, oLe, oMod, oFdiv, oSub, oIAdd, Res.bind_ok, Res.toS_ok, noX_okk, List.map_cons, List.map_nil, List.cons_append, List.nil_append, List.append_nil, List.getElem?_cons_zero, List.getElem?_cons_succ, List.set_cons_zero, List.set_cons_succ, List.length_cons, List.length_nil, List.replicate, Nat.reduceAdd, Nat.reduceSub, Nat.add_eq, Nat.add_zero, Nat.sub_self, if_true, if_false, Bool.false_eq_true, reduceIte, Option.getD_some, o_addI, o_slT, o_slS, o_slL, o_lenS, o_lenT, o_lenL, o_lenSc, o_tupS, o_tupL, o_tupT, o_ixT0, o_ixT1, o_ixT2, o_ixL0, o_ixL1, ty_str, sizeLine_eq, Nat.reduceLeDiff, Nat.zero_le, Nat.reduceLT, Int.reduceLT, Int.reduceLE, Int.reduceNeg, and_self, and_true, true_and, Int.reduceToNat, eq_int]
    by_cases h2 : (mode : Int) = 4
    · simp -implicitDefEqProofs only [OkS.ret, OkS.seq, OkS.asg, OkS.exp, OkS.ite, OkS.skip, OkS.brk, OkS.cnt, OkS.for, OkS.while, OkE.bnd, OkE.toS, OkE.ok, OkE.nox, OkE.comp, OkS.nxt, OkS.rtn, mIf, mTest, mBin, mVar, mC, mCall, mCons, mNil, mStar, mSl, mPart, mNoPart, mMeth, mMeth0, mTup, mLst, mLstR, mNeg, mNot, mAnd, mOr, mAndV, mOrV, mNotV, mYes, mRng1, mWk, mEnum, mEnumZip, mZip, mFn, mPar, mPar3, mAug, mIsi, mExpr, gSet, gTupW, gConsW, gNilW, gPut, seqT, startW, wipeW, cName, cTup, cCons, cNil, oIntX, oInt, oAbs, oMin2, oGt, oGe, oLt, oLe, oMod, oFdiv, oSub, oIAdd, Res.bind_ok, Res.toS_ok, noX_okk, List.map_cons, List.map_nil, List.cons_append, List.nil_append, List.append_nil, List.getElem?_cons_zero, List.getElem?_cons_succ, List.set_cons_zero, List.set_cons_succ, List.length_cons, List.length_nil, List.replicate, Nat.reduceAdd, Nat.reduceSub, Nat.add_eq, Nat.add_zero, Nat.sub_self, if_true, if_false, Bool.false_eq_true, reduceIte, Option.getD_some, o_addI, o_slT, o_slS, o_slL, o_lenS, o_lenT, o_lenL, o_lenSc, o_tupS, o_tupL, o_tupT, o_ixT0, o_ixT1, o_ixT2, o_ixL0, o_ixL1, ty_str, sizeLine_eq, Nat.reduceLeDiff, Nat.zero_le, Nat.reduceLT, Int.reduceLT, Int.reduceLE, Int.reduceNeg, and_self, and_true, true_and, Int.reduceToNat, h2, decide_true, hv.len]
      rw [if_pos (by omega), OkE.ok, show ((rs.length : Nat) : Int).toNat = rs.length by omega, rangeW_map]
      refine comp_pure (fun _ => true) (fun k => ruleW (rs.getD (rs.length - 1 - k) default)) (by rw [List.length_range, sizeLine_eq]; omega) (fun k hk => ?_) ?_
      · have hk := List.mem_range.mp hk
        refine ⟨[some (.ref 0), some (.str name), some (.int (most : Nat)), some (.int 8), some (.lst (pl.map W.str)), x5, some (.lst (ws.map W.str)), some v, x8, x9, some (.int 4), some (.int (many : Nat)), some (.int (k : Nat)), none, none, none], by simp -implicitDefEqProofs only [OkS.ret, OkS.seq, OkS.asg, OkS.exp, OkS.ite, OkS.skip, OkS.brk, OkS.cnt, OkS.for, OkS.while, OkE.bnd, OkE.toS, OkE.ok, OkE.nox, OkE.comp, OkS.nxt, OkS.rtn, mIf, mTest, mBin, mVar, mC, mCall, mCons, mNil, mStar, mSl, mPart, mNoPart, mMeth, mMeth0, mTup, mLst, mLstR, mNeg, mNot, mAnd, mOr, mAndV, mOrV, mNotV, mYes, mRng1, mWk, mEnum, mEnumZip, mZip, mFn, mPar, mPar3, mAug, mIsi, mExpr, gSet, gTupW, gConsW, gNilW, gPut, seqT, startW, wipeW, cName, cTup, cCons, cNil, oIntX, oInt, oAbs, oMin2, oGt, oGe, oLt, oLe, oMod, oFdiv, oSub, oIAdd, Res.bind_ok, Res.toS_ok, noX_okk, List.map_cons, List.map_nil, List.cons_append, List.nil_append, List.append_nil, List.getElem?_cons_zero, List.getElem?_cons_succ, List.set_cons_zero, List.set_cons_succ, List.length_cons, List.length_nil, List.replicate, Nat.reduceAdd, Nat.reduceSub, Nat.add_eq, Nat.add_zero, Nat.sub_self, if_true, if_false, Bool.false_eq_true, reduceIte, Option.getD_some, o_addI, o_slT, o_slS, o_slL, o_lenS, o_lenT, o_lenL, o_lenSc, o_tupS, o_tupL, o_tupT, o_ixT0, o_ixT1, o_ixT2, o_ixL0, o_ixL1, ty_str, sizeLine_eq, Nat.reduceLeDiff, Nat.zero_le, Nat.reduceLT, Int.reduceLT, Int.reduceLE, Int.reduceNeg, and_self, and_true, true_and, Int.reduceToNat], rfl, fun _ => ?_⟩
        simp -implicitDefEqProofs only [OkS.ret, OkS.seq, OkS.asg, OkS.exp, OkS.ite, OkS.skip, OkS.brk, OkS.cnt, OkS.for, OkS.while, OkE.bnd, OkE.toS, OkE.ok, OkE.nox, OkE.comp, OkS.nxt, OkS.rtn, mIf, mTest, mBin, mVar, mC, mCall, mCons, mNil, mStar, mSl, mPart, mNoPart, mMeth, mMeth0, mTup, mLst, mLstR, mNeg, mNot, mAnd, mOr, mAndV, mOrV, mNotV, mYes, mRng1, mWk, mEnum, mEnumZip, mZip, mFn, mPar, mPar3, mAug, mIsi, mExpr, gSet, gTupW, gConsW, gNilW, gPut, seqT, startW, wipeW, cName, cTup, cCons, cNil, oIntX, oInt, oAbs, oMin2, oGt, oGe, oLt, oLe, oMod, oFdiv, oSub, oIAdd, Res.bind_ok, Res.toS_ok, noX_okk, List.map_cons, List.map_nil, List.cons_append, List.nil_append, List.append_nil, List.getElem?_cons_zero, List.getElem?_cons_succ, List.set_cons_zero, List.set_cons_succ, List.length_cons, List.length_nil, List.replicate, Nat.reduceAdd, Nat.reduceSub, Nat.add_eq, Nat.add_zero, Nat.sub_self, if_true, if_false, Bool.false_eq_true, reduceIte, Option.getD_some, o_addI, o_slT, o_slS, o_slL, o_lenS, o_lenT, o_lenL, o_lenSc, o_tupS, o_tupL, o_tupT, o_ixT0, o_ixT1, o_ixT2, o_ixL0, o_ixL1, ty_str, sizeLine_eq, Nat.reduceLeDiff, Nat.zero_le, Nat.reduceLT, Int.reduceLT, Int.reduceLE, Int.reduceNeg, and_self, and_true, true_and, Int.reduceToNat, hv.len]
        rw [show ((rs.length : Nat) : Int) - 1 - (k : Nat) = ((rs.length - 1 - k : Nat) : Int) by omega, hv.ix (show rs.length - 1 - k < rs.length by omega), getD_at (show rs.length - 1 - k < rs.length by omega)]
        rfl
      · refine ⟨.lst (((List.range rs.length).map fun k => rs.getD (rs.length - 1 - k) default).map ruleW), _, ns3, .lst _, fun q hq => ?_, by simp; omega, ?_, rfl⟩
        · obtain ⟨k, hk, rfl⟩ := List.mem_map.mp hq
          have hk := List.mem_range.mp hk
          rw [getD_at (show rs.length - 1 - k < rs.length by omega)]
          exact hr _ (List.getElem_mem _)
        · rw [List.filter_eq_self.mpr (fun _ _ => rfl), List.map_map]
          rfl
    · simp -implicitDefEqProofs only [OkS.ret, OkS.seq, OkS.asg, OkS.exp, OkS.ite, OkS.skip, OkS.brk, OkS.cnt, OkS.for, OkS.while, OkE.bnd, OkE.toS, OkE.ok, OkE.nox, OkE.comp, OkS.nxt, OkS.rtn, mIf, mTest, mBin, mVar, mC, mCall, mCons, mNil, mStar, mSl, mPart, mNoPart, mMeth, mMeth0, mTup, mLst, mLstR, mNeg, mNot, mAnd, mOr, mAndV, mOrV, mNotV, mYes, mRng1, mWk, mEnum, mEnumZip, mZip, mFn, mPar, mPar3, mAug, mIsi, mExpr, gSet, gTupW, gConsW, gNilW, gPut, seqT, startW, wipeW, cName, cTup, cCons, cNil, oIntX, oInt, oAbs, oMin2, oGt, oGe, oLt, oLe, oMod, oFdiv, oSub, oIAdd, Res.bind_ok, Res.toS_ok, noX_okk, List.map_cons, List.map_nil, List.cons_append, List.nil_append, List.append_nil, List.getElem?_cons_zero, List.getElem?_cons_succ, List.set_cons_zero, List.set_cons_succ, List.length_cons, List.length_nil, List.replicate, Nat.reduceAdd, Nat.reduceSub, Nat.add_eq, Nat.add_zero, Nat.sub_self, if_true, if_false, Bool.false_eq_true, reduceIte, Option.getD_some, o_addI, o_slT, o_slS, o_slL, o_lenS, o_lenT, o_lenL, o_lenSc, o_tupS, o_tupL, o_tupT, o_ixT0, o_ixT1, o_ixT2, o_ixL0, o_ixL1, ty_str, sizeLine_eq, Nat.reduceLeDiff, Nat.zero_le, Nat.reduceLT, Int.reduceLT, Int.reduceLE, Int.reduceNeg, and_self, and_true, true_and, Int.reduceToNat, h2, decide_false]
      exact ⟨v, rs, ns3, hv, hr, hl, rfl, rfl⟩
  clear hv hr hl
  rintro τ S ⟨v, rs, ns3, hv, hr, hl, rfl, rfl⟩
  -- a stray one
  refine OkS.cut (fun τ S => ∃ sg ns', Good sg ∧ τ = [some (.ref 0), some (.str name), some (.int (most : Nat)), some (.int 8), some (.lst (pl.map W.str)), x5, some (.lst (ws.map W.str)), some v, x8, x9, some (.int (mode : Nat)), some (.int (many : Nat)), none, some (.str sg), none, none] ∧ S = st2 ns' rs0) ?_ ?_
  · simp -implicitDefEqProofs only [OkS.ret, OkS.seq, OkS.asg, OkS.exp, OkS.ite, OkS.skip, OkS.brk, OkS.cnt, OkS.for, OkS.while, OkE.bnd, OkE.toS, OkE.ok, OkE.nox, OkE.comp, OkS.nxt, OkS.rtn, mIf, mTest, mBin, mVar, mC, mCall, mCons, mNil, mStar, mSl, mPart, mNoPart, mMeth, mMeth0, mTup, mLst, mLstR, mNeg, mNot, mAnd, mOr, mAndV, mOrV, mNotV, mYes, mRng1, mWk, mEnum, mEnumZip, mZip, mFn, mPar, mPar3, mAug, mIsi, mExpr, gSet, gTupW, gConsW, gNilW, gPut, seqT, startW, wipeW, cName, cTup, cCons, cNil, oIntX, oInt, oAbs, oMin2, oGt, oGe, oLt, oLe, oMod, oFdiv, oSub, oIAdd, Res.bind_ok, Res.toS_ok, noX_okk, List.map_cons, List.map_nil, List.cons_append, List.nil_append, List.append_nil, List.getElem?_cons_zero, List.getElem?_cons_succ, List.set_cons_zero, List.set_cons_succ, List.length_cons, List.length_nil, List.replicate, Nat.reduceAdd, Nat.reduceSub, Nat.add_eq, Nat.add_zero, Nat.sub_self, if_true, if_false, Bool.false_eq_true, reduceIte, Option.getD_some, o_addI, o_slT, o_slS, o_slL, o_lenS, o_lenT, o_lenL, o_lenSc, o_tupS, o_tupL, o_tupT, o_ixT0, o_ixT1, o_ixT2, o_ixL0, o_ixL1, ty_str, sizeLine_eq, Nat.reduceLeDiff, Nat.zero_le, Nat.reduceLT, Int.reduceLT, Int.reduceLE, Int.reduceNeg, and_self, and_true, true_and, Int.reduceToNat]
    rw [if_pos (by decide), OkE.ok, rangeW_map]
    refine comp_mapI (fun pre acc S => ∃ (xs : List Str) (ns' : List Int), acc = xs.map W.str ∧ (∀ x ∈ xs, Good x ∧ x.length = 1) ∧ xs.length = pre.length ∧ S = st2 ns' rs0) ⟨[], ns3, rfl, fun x hx => (by cases hx), rfl, rfl⟩ ?_ ?_
    · rintro pre k post acc S e ⟨xs, ns', rfl, hx, hxl, rfl⟩
      have hpl4 : pre.length < 4 := by
        have := congrArg List.length e
        simp at this
        omega
      refine ⟨[some (.ref 0), some (.str name), some (.int (most : Nat)), some (.int 8), some (.lst (pl.map W.str)), x5, some (.lst (ws.map W.str)), some v, x8, x9, some (.int (mode : Nat)), some (.int (many : Nat)), some (.int (k : Nat)), none, none, none], by simp -implicitDefEqProofs only [OkS.ret, OkS.seq, OkS.asg, OkS.exp, OkS.ite, OkS.skip, OkS.brk, OkS.cnt, OkS.for, OkS.while, OkE.bnd, OkE.toS, OkE.ok, OkE.nox, OkE.comp, OkS.nxt, OkS.rtn, mIf, mTest, mBin, mVar, mC, mCall, mCons, mNil, mStar, mSl, mPart, mNoPart, mMeth, mMeth0, mTup, mLst, mLstR, mNeg, mNot, mAnd, mOr, mAndV, mOrV, mNotV, mYes, mRng1, mWk, mEnum, mEnumZip, mZip, mFn, mPar, mPar3, mAug, mIsi, mExpr, gSet, gTupW, gConsW, gNilW, gPut, seqT, startW, wipeW, cName, cTup, cCons, cNil, oIntX, oInt, oAbs, oMin2, oGt, oGe, oLt, oLe, oMod, oFdiv, oSub, oIAdd, Res.bind_ok, Res.toS_ok, noX_okk, List.map_cons, List.map_nil, List.cons_append, List.nil_append, List.append_nil, List.getElem?_cons_zero, List.getElem?_cons_succ, List.set_cons_zero, List.set_cons_succ, List.length_cons, List.length_nil, List.replicate, Nat.reduceAdd, Nat.reduceSub, Nat.add_eq, Nat.add_zero, Nat.sub_self, if_true, if_false, Bool.false_eq_true, reduceIte, Option.getD_some, o_addI, o_slT, o_slS, o_slL, o_lenS, o_lenT, o_lenL, o_lenSc, o_tupS, o_tupL, o_tupT, o_ixT0, o_ixT1, o_ixT2, o_ixL0, o_ixL1, ty_str, sizeLine_eq, Nat.reduceLeDiff, Nat.zero_le, Nat.reduceLT, Int.reduceLT, Int.reduceLE, Int.reduceNeg, and_self, and_true, true_and, Int.reduceToNat], ?_⟩
      simp -implicitDefEqProofs only [OkS.ret, OkS.seq, OkS.asg, OkS.exp, OkS.ite, OkS.skip, OkS.brk, OkS.cnt, OkS.for, OkS.while, OkE.bnd, OkE.toS, OkE.ok, OkE.nox, OkE.comp, OkS.nxt, OkS.rtn, mIf, mTest, mBin, mVar, mC, mCall, mCons, mNil, mStar, mSl, mPart, mNoPart, mMeth, mMeth0, mTup, mLst, mLstR, mNeg, mNot, mAnd, mOr, mAndV, mOrV, mNotV, mYes, mRng1, mWk, mEnum, mEnumZip, mZip, mFn, mPar, mPar3, mAug, mIsi, mExpr, gSet, gTupW, gConsW, gNilW, gPut, seqT, startW, wipeW, cName, cTup, cCons, cNil, oIntX, oInt, oAbs, oMin2, oGt, oGe, oLt, oLe, oMod, oFdiv, oSub, oIAdd, Res.bind_ok, Res.toS_ok, noX_okk, List.map_cons, List.map_nil, List.cons_append, List.nil_append, List.append_nil, List.getElem?_cons_zero, List.getElem?_cons_succ, List.set_cons_zero, List.set_cons_succ, List.length_cons, List.length_nil, List.replicate, Nat.reduceAdd, Nat.reduceSub, Nat.add_eq, Nat.add_zero, Nat.sub_self, if_true, if_false, Bool.false_eq_true, reduceIte, Option.getD_some, o_addI, o_slT, o_slS, o_slL, o_lenS, o_lenT, o_lenL, o_lenSc, o_tupS, o_tupL, o_tupT, o_ixT0, o_ixT1, o_ixT2, o_ixL0, o_ixL1, ty_str, sizeLine_eq, Nat.reduceLeDiff, Nat.zero_le, Nat.reduceLT, Int.reduceLT, Int.reduceLE, Int.reduceNeg, and_self, and_true, true_and, Int.reduceToNat]
      refine take_ok (by omega) fun r ns4 hr4 => ?_
      obtain ⟨x, gx, gx1, ex⟩ := hn.at (show r < name.length by omega)
      rw [ex, OkE.ok]
      refine ⟨by rw [List.length_map]; omega, xs ++ [x], ns4, by rw [List.map_append]; rfl, fun y hy => ?_, by simp [hxl], rfl⟩
      rcases List.mem_append.mp hy with z | z
      · exact hx y z
      · have : y = x := by simpa using z
        subst this
        exact ⟨gx, gx1⟩
    · rintro acc S ⟨xs, ns', rfl, hx, hxl, rfl⟩
      rw [List.length_range] at hxl
      obtain ⟨j1, j2⟩ := join0_good hx (by omega)
      simp -implicitDefEqProofs only [OkS.ret, OkS.seq, OkS.asg, OkS.exp, OkS.ite, OkS.skip, OkS.brk, OkS.cnt, OkS.for, OkS.while, OkE.bnd, OkE.toS, OkE.ok, OkE.nox, OkE.comp, OkS.nxt, OkS.rtn, mIf, mTest, mBin, mVar, mC, mCall, mCons, mNil, mStar, mSl, mPart, mNoPart, mMeth, mMeth0, mTup, mLst, mLstR, mNeg, mNot, mAnd, mOr, mAndV, mOrV, mNotV, mYes, mRng1, mWk, mEnum, mEnumZip, mZip, mFn, mPar, mPar3, mAug, mIsi, mExpr, gSet, gTupW, gConsW, gNilW, gPut, seqT, startW, wipeW, cName, cTup, cCons, cNil, oIntX, oInt, oAbs, oMin2, oGt, oGe, oLt, oLe, oMod, oFdiv, oSub, oIAdd, Res.bind_ok, Res.toS_ok, noX_okk, List.map_cons, List.map_nil, List.cons_append, List.nil_append, List.append_nil, List.getElem?_cons_zero, List.getElem?_cons_succ, List.set_cons_zero, List.set_cons_succ, List.length_cons, List.length_nil, List.replicate, Nat.reduceAdd, Nat.reduceSub, Nat.add_eq, Nat.add_zero, Nat.sub_self, if_true, if_false, Bool.false_eq_true, reduceIte, Option.getD_some, o_addI, o_slT, o_slS, o_slL, o_lenS, o_lenT, o_lenL, o_lenSc, o_tupS, o_tupL, o_tupT, o_ixT0, o_ixT1, o_ixT2, o_ixL0, o_ixL1, ty_str, sizeLine_eq, Nat.reduceLeDiff, Nat.zero_le, Nat.reduceLT, Int.reduceLT, Int.reduceLE, Int.reduceNeg, and_self, and_true, true_and, Int.reduceToNat, j2]
      exact ⟨_, ns', j1, rfl, rfl⟩
  rintro τ S ⟨sg, ns4, hsg, rfl, rfl⟩
  refine OkS.cut (fun τ S => ∃ stray ns', Good stray.1 ∧ Good stray.2 ∧ τ = [some (.ref 0), some (.str name), some (.int (most : Nat)), some (.int 8), some (.lst (pl.map W.str)), x5, some (.lst (ws.map W.str)), some v, x8, x9, some (.int (mode : Nat)), some (.int (many : Nat)), none, some (.str sg), some (ruleW stray), none] ∧ S = st2 ns' rs0) ?_ ?_
  · simp -implicitDefEqProofs only [OkS.ret, OkS.seq, OkS.asg, OkS.exp, OkS.ite, OkS.skip, OkS.brk, OkS.cnt, OkS.for, OkS.while, OkE.bnd, OkE.toS, OkE.ok, OkE.nox, OkE.comp, OkS.nxt, OkS.rtn, mIf, mTest, mBin, mVar, mC, mCall, mCons, mNil, mStar, mSl, mPart, mNoPart, mMeth, mMeth0, mTup, mLst, mLstR, mNeg, mNot, mAnd, mOr, mAndV, mOrV, mNotV, mYes, mRng1, mWk, mEnum, mEnumZip, mZip, mFn, mPar, mPar3, mAug, mIsi, mExpr, gSet, gTupW, gConsW, gNilW, gPut, seqT, startW, wipeW, cName, cTup, cCons, cNil, oIntX, oInt, oAbs, oMin2, oGt, oGe, oLt, oLe, oMod, oFdiv, oSub, oIAdd, Res.bind_ok, Res.toS_ok, noX_okk, List.map_cons, List.map_nil, List.cons_append, List.nil_append, List.append_nil, List.getElem?_cons_zero, List.getElem?_cons_succ, List.set_cons_zero, List.set_cons_succ, List.length_cons, List.length_nil, List.replicate, Nat.reduceAdd, Nat.reduceSub, Nat.add_eq, Nat.add_zero, Nat.sub_self, if_true, if_false, Bool.false_eq_true, reduceIte, Option.getD_some, o_addI, o_slT, o_slS, o_slL, o_lenS, o_lenT, o_lenL, o_lenSc, o_tupS, o_tupL, o_tupT, o_ixT0, o_ixT1, o_ixT2, o_ixL0, o_ixL1, ty_str, sizeLine_eq, Nat.reduceLeDiff, Nat.zero_le, Nat.reduceLT, Int.reduceLT, Int.reduceLE, Int.reduceNeg, and_self, and_true, true_and, Int.reduceToNat]
    refine take_ok (by omega) fun r1 ns5 hr1 => ?_
    try simp -implicitDefEqProofs only [OkS.ret, OkS.seq, OkS.asg, OkS.exp, OkS.ite, OkS.skip, OkS.brk, OkS.cnt, OkS.for, OkS.while, OkE.bnd, OkE.toS, OkE.ok, OkE.nox, OkE.comp, OkS.nxt, OkS.rtn, mIf, mTest, mBin, mVar, mC, mCall, mCons, mNil, mStar, mSl, mPart, mNoPart, mMeth, mMeth0, mTup, mLst, mLstR, mNeg, mNot, mAnd, mOr, mAndV, mOrV, mNotV, mYes, mRng1, mWk, mEnum, mEnumZip, mZip, mFn, mPar, mPar3, mAug, mIsi, mExpr, gSet, gTupW, gConsW, gNilW, gPut, seqT, startW, wipeW, cName, cTup, cCons, cNil, oIntX, oInt, oAbs, oMin2, oGt, oGe, oLt, oLe, oMod, oFdiv, oSub, oIAdd, Res.bind_ok, Res.toS_ok, noX_okk, List.map_cons, List.map_nil, List.cons_append, List.nil_append, List.append_nil, List.getElem?_cons_zero, List.getElem?_cons_succ, List.set_cons_zero, List.set_cons_succ, List.length_cons, List.length_nil, List.replicate, Nat.reduceAdd, Nat.reduceSub, Nat.add_eq, Nat.add_zero, Nat.sub_self, if_true, if_false, Bool.false_eq_true, reduceIte, Option.getD_some, o_addI, o_slT, o_slS, o_slL, o_lenS, o_lenT, o_lenL, o_lenSc, o_tupS, o_tupL, o_tupT, o_ixT0, o_ixT1, o_ixT2, o_ixL0, o_ixL1, ty_str, sizeLine_eq, Nat.reduceLeDiff, Nat.zero_le, Nat.reduceLT, Int.reduceLT, Int.reduceLE, Int.reduceNeg, and_self, and_true, true_and, Int.reduceToNat]
    refine take_ok (by omega) fun r2 ns6 hr2 => ?_
    simp -implicitDefEqProofs only [OkS.ret, OkS.seq, OkS.asg, OkS.exp, OkS.ite, OkS.skip, OkS.brk, OkS.cnt, OkS.for, OkS.while, OkE.bnd, OkE.toS, OkE.ok, OkE.nox, OkE.comp, OkS.nxt, OkS.rtn, mIf, mTest, mBin, mVar, mC, mCall, mCons, mNil, mStar, mSl, mPart, mNoPart, mMeth, mMeth0, mTup, mLst, mLstR, mNeg, mNot, mAnd, mOr, mAndV, mOrV, mNotV, mYes, mRng1, mWk, mEnum, mEnumZip, mZip, mFn, mPar, mPar3, mAug, mIsi, mExpr, gSet, gTupW, gConsW, gNilW, gPut, seqT, startW, wipeW, cName, cTup, cCons, cNil, oIntX, oInt, oAbs, oMin2, oGt, oGe, oLt, oLe, oMod, oFdiv, oSub, oIAdd, Res.bind_ok, Res.toS_ok, noX_okk, List.map_cons, List.map_nil, List.cons_append, List.nil_append, List.append_nil, List.getElem?_cons_zero, List.getElem?_cons_succ, List.set_cons_zero, List.set_cons_succ, List.length_cons, List.length_nil, List.replicate, Nat.reduceAdd, Nat.reduceSub, Nat.add_eq, Nat.add_zero, Nat.sub_self, if_true, if_false, Bool.false_eq_true, reduceIte, Option.getD_some, o_addI, o_slT, o_slS, o_slL, o_lenS, o_lenT, o_lenL, o_lenSc, o_tupS, o_tupL, o_tupT, o_ixT0, o_ixT1, o_ixT2, o_ixL0, o_ixL1, ty_str, sizeLine_eq, Nat.reduceLeDiff, Nat.zero_le, Nat.reduceLT, Int.reduceLT, Int.reduceLE, Int.reduceNeg, and_self, and_true, true_and, Int.reduceToNat]
    exact ⟨(_, _), ns6, cut_good hsg, cut_good hsg, rfl, rfl⟩
  rintro τ S ⟨stray, ns5, gs1, gs2, rfl, rfl⟩
  refine OkS.cut (fun τ S => ∃ v rs ns', IsL rs0 v rs ∧ RulesOk rs ∧ rs.length ≤ 21 ∧ τ = [some (.ref 0), some (.str name), some (.int (most : Nat)), some (.int 8), some (.lst (pl.map W.str)), x5, some (.lst (ws.map W.str)), some v, x8, x9, some (.int (mode : Nat)), some (.int (many : Nat)), none, some (.str sg), some (ruleW stray), none] ∧ S = st2 ns' rs0) ?_ ?_
  · simp -implicitDefEqProofs only [OkS.ret, OkS.seq, OkS.asg, OkS.exp, OkS.ite, OkS.skip, OkS.brk, OkS.cnt, OkS.for, OkS.while, OkE.bnd, OkE.toS, OkE.ok, OkE.nox, OkE.comp, OkS.nxt, OkS.rtn, mIf, mTest, mBin, mVar, mC, mCall, mCons, mNil, mStar, mSl, mPart, mNoPart, mMeth, mMeth0, mTup, mLst, mLstR, mNeg, mNot, mAnd, mOr, mAndV, mOrV, mNotV, mYes, mRng1, mWk, mEnum, mEnumZip, mZip, mFn, mPar, mPar3, mAug, mIsi, mExpr, gSet, gTupW, gConsW, gNilW, gPut, seqT, startW, wipeW, cName, cTup, cCons, cNil, oIntX, oInt, oAbs, oMin2, oGt, oGe, oLt, oLe, oMod, oFdiv, oSub, oIAdd, Res.bind_ok, Res.toS_ok, noX_okk, List.map_cons, List.map_nil, List.cons_append, List.nil_append, List.append_nil, List.getElem?_cons_zero, List.getElem?_cons_succ, List.set_cons_zero, List.set_cons_succ, List.length_cons, List.length_nil, List.replicate, Nat.reduceAdd, Nat.reduceSub, Nat.add_eq, Nat.add_zero, Nat.sub_self, if_true, if_false, Bool.false_eq_true, reduceIte, Option.getD_some, o_addI, o_slT, o_slS, o_slL, o_lenS, o_lenT, o_lenL, o_lenSc, o_tupS, o_tupL, o_tupT, o_ixT0, o_ixT1, o_ixT2, o_ixL0, o_ixL1, ty_str, sizeLine_eq, Nat.reduceLeDiff, Nat.zero_le, Nat.reduceLT, Int.reduceLT, Int.reduceLE, Int.reduceNeg, and_self, and_true, true_and, Int.reduceToNat]
    refine take_ok (by omega) fun r1 ns6 hr1 => ?_
    simp -implicitDefEqProofs only [OkS.ret, OkS.seq, OkS.asg, OkS.exp, OkS.ite, OkS.skip, OkS.brk, OkS.cnt, OkS.for, OkS.while, OkE.bnd, OkE.toS, OkE.ok, OkE.nox, OkE.comp, OkS.nxt, OkS.rtn, mIf, mTest, mBin, mVar, mC, mCall, mCons, mNil, mStar, mSl, mPart, mNoPart, mMeth, mMeth0, mTup, mLst, mLstR, mNeg, mNot, mAnd, mOr, mAndV, mOrV, mNotV, mYes, mRng1, mWk, mEnum, mEnumZip, mZip, mFn, mPar, mPar3, mAug, mIsi, mExpr, gSet, gTupW, gConsW, gNilW, gPut, seqT, startW, wipeW, cName, cTup, cCons, cNil, oIntX, oInt, oAbs, oMin2, oGt, oGe, oLt, oLe, oMod, oFdiv, oSub, oIAdd, Res.bind_ok, Res.toS_ok, noX_okk, List.map_cons, List.map_nil, List.cons_append, List.nil_append, List.append_nil, List.getElem?_cons_zero, List.getElem?_cons_succ, List.set_cons_zero, List.set_cons_succ, List.length_cons, List.length_nil, List.replicate, Nat.reduceAdd, Nat.reduceSub, Nat.add_eq, Nat.add_zero, Nat.sub_self, if_true, if_false, Bool.false_eq_true, reduceIte, Option.getD_some, o_addI, o_slT, o_slS, o_slL, o_lenS, o_lenT, o_lenL, o_lenSc, o_tupS, o_tupL, o_tupT, o_ixT0, o_ixT1, o_ixT2, o_ixL0, o_ixL1, ty_str, sizeLine_eq, Nat.reduceLeDiff, Nat.zero_le, Nat.reduceLT, Int.reduceLT, Int.reduceLE, Int.reduceNeg, and_self, and_true, true_and, Int.reduceToNat, eq_int]
    by_cases h2 : (r1 : Int) = 0
    · simp -implicitDefEqProofs only [OkS.ret, OkS.seq, OkS.asg, OkS.exp, OkS.ite, OkS.skip, OkS.brk, OkS.cnt, OkS.for, OkS.while, OkE.bnd, OkE.toS, OkE.ok, OkE.nox, OkE.comp, OkS.nxt, OkS.rtn, mIf, mTest, mBin, mVar, mC, mCall, mCons, mNil, mStar, mSl, mPart, mNoPart, mMeth, mMeth0, mTup, mLst, mLstR, mNeg, mNot, mAnd, mOr, mAndV, mOrV, mNotV, mYes, mRng1, mWk, mEnum, mEnumZip, mZip, mFn, mPar, mPar3, mAug, mIsi, mExpr, gSet, gTupW, gConsW, gNilW, gPut, seqT, startW, wipeW, cName, cTup, cCons, cNil, oIntX, oInt, oAbs, oMin2, oGt, oGe, oLt, oLe, oMod, oFdiv, oSub, oIAdd, Res.bind_ok, Res.toS_ok, noX_okk, List.map_cons, List.map_nil, List.cons_append, List.nil_append, List.append_nil, List.getElem?_cons_zero, List.getElem?_cons_succ, List.set_cons_zero, List.set_cons_succ, List.length_cons, List.length_nil, List.replicate, Nat.reduceAdd, Nat.reduceSub, Nat.add_eq, Nat.add_zero, Nat.sub_self, if_true, if_false, Bool.false_eq_true, reduceIte, Option.getD_some, o_addI, o_slT, o_slS, o_slL, o_lenS, o_lenT, o_lenL, o_lenSc, o_tupS, o_tupL, o_tupT, o_ixT0, o_ixT1, o_ixT2, o_ixL0, o_ixL1, ty_str, sizeLine_eq, Nat.reduceLeDiff, Nat.zero_le, Nat.reduceLT, Int.reduceLT, Int.reduceLE, Int.reduceNeg, and_self, and_true, true_and, Int.reduceToNat, h2, decide_true]
      rw [show ([rowO ns6, .lst (rs0.map ruleW)] : Store) = st2 ns6 rs0 from rfl, hv.nin]
      by_cases h3 : stray ∈ rs
      · simp -implicitDefEqProofs only [OkS.ret, OkS.seq, OkS.asg, OkS.exp, OkS.ite, OkS.skip, OkS.brk, OkS.cnt, OkS.for, OkS.while, OkE.bnd, OkE.toS, OkE.ok, OkE.nox, OkE.comp, OkS.nxt, OkS.rtn, mIf, mTest, mBin, mVar, mC, mCall, mCons, mNil, mStar, mSl, mPart, mNoPart, mMeth, mMeth0, mTup, mLst, mLstR, mNeg, mNot, mAnd, mOr, mAndV, mOrV, mNotV, mYes, mRng1, mWk, mEnum, mEnumZip, mZip, mFn, mPar, mPar3, mAug, mIsi, mExpr, gSet, gTupW, gConsW, gNilW, gPut, seqT, startW, wipeW, cName, cTup, cCons, cNil, oIntX, oInt, oAbs, oMin2, oGt, oGe, oLt, oLe, oMod, oFdiv, oSub, oIAdd, Res.bind_ok, Res.toS_ok, noX_okk, List.map_cons, List.map_nil, List.cons_append, List.nil_append, List.append_nil, List.getElem?_cons_zero, List.getElem?_cons_succ, List.set_cons_zero, List.set_cons_succ, List.length_cons, List.length_nil, List.replicate, Nat.reduceAdd, Nat.reduceSub, Nat.add_eq, Nat.add_zero, Nat.sub_self, if_true, if_false, Bool.false_eq_true, reduceIte, Option.getD_some, o_addI, o_slT, o_slS, o_slL, o_lenS, o_lenT, o_lenL, o_lenSc, o_tupS, o_tupL, o_tupT, o_ixT0, o_ixT1, o_ixT2, o_ixL0, o_ixL1, ty_str, sizeLine_eq, Nat.reduceLeDiff, Nat.zero_le, Nat.reduceLT, Int.reduceLT, Int.reduceLE, Int.reduceNeg, and_self, and_true, true_and, Int.reduceToNat, h3, decide_true, Bool.not_true]
        exact ⟨v, rs, ns6, hv, hr, by omega, rfl, rfl⟩
      · simp -implicitDefEqProofs only [OkS.ret, OkS.seq, OkS.asg, OkS.exp, OkS.ite, OkS.skip, OkS.brk, OkS.cnt, OkS.for, OkS.while, OkE.bnd, OkE.toS, OkE.ok, OkE.nox, OkE.comp, OkS.nxt, OkS.rtn, mIf, mTest, mBin, mVar, mC, mCall, mCons, mNil, mStar, mSl, mPart, mNoPart, mMeth, mMeth0, mTup, mLst, mLstR, mNeg, mNot, mAnd, mOr, mAndV, mOrV, mNotV, mYes, mRng1, mWk, mEnum, mEnumZip, mZip, mFn, mPar, mPar3, mAug, mIsi, mExpr, gSet, gTupW, gConsW, gNilW, gPut, seqT, startW, wipeW, cName, cTup, cCons, cNil, oIntX, oInt, oAbs, oMin2, oGt, oGe, oLt, oLe, oMod, oFdiv, oSub, oIAdd, Res.bind_ok, Res.toS_ok, noX_okk, List.map_cons, List.map_nil, List.cons_append, List.nil_append, List.append_nil, List.getElem?_cons_zero, List.getElem?_cons_succ, List.set_cons_zero, List.set_cons_succ, List.length_cons, List.length_nil, List.replicate, Nat.reduceAdd, Nat.reduceSub, Nat.add_eq, Nat.add_zero, Nat.sub_self, if_true, if_false, Bool.false_eq_true, reduceIte, Option.getD_some, o_addI, o_slT, o_slS, o_slL, o_lenS, o_lenT, o_lenL, o_lenSc, o_tupS, o_tupL, o_tupT, o_ixT0, o_ixT1, o_ixT2, o_ixL0, o_ixL1, ty_str, sizeLine_eq, Nat.reduceLeDiff, Nat.zero_le, Nat.reduceLT, Int.reduceLT, Int.reduceLE, Int.reduceNeg, and_self, and_true, true_and, Int.reduceToNat, h3, decide_false, Bool.not_false]
        rw [show ([ruleW stray] : List W) = [stray].map ruleW from rfl, hv.addL [stray] (by simp; omega)]
        simp -implicitDefEqProofs only [OkS.ret, OkS.seq, OkS.asg, OkS.exp, OkS.ite, OkS.skip, OkS.brk, OkS.cnt, OkS.for, OkS.while, OkE.bnd, OkE.toS, OkE.ok, OkE.nox, OkE.comp, OkS.nxt, OkS.rtn, mIf, mTest, mBin, mVar, mC, mCall, mCons, mNil, mStar, mSl, mPart, mNoPart, mMeth, mMeth0, mTup, mLst, mLstR, mNeg, mNot, mAnd, mOr, mAndV, mOrV, mNotV, mYes, mRng1, mWk, mEnum, mEnumZip, mZip, mFn, mPar, mPar3, mAug, mIsi, mExpr, gSet, gTupW, gConsW, gNilW, gPut, seqT, startW, wipeW, cName, cTup, cCons, cNil, oIntX, oInt, oAbs, oMin2, oGt, oGe, oLt, oLe, oMod, oFdiv, oSub, oIAdd, Res.bind_ok, Res.toS_ok, noX_okk, List.map_cons, List.map_nil, List.cons_append, List.nil_append, List.append_nil, List.getElem?_cons_zero, List.getElem?_cons_succ, List.set_cons_zero, List.set_cons_succ, List.length_cons, List.length_nil, List.replicate, Nat.reduceAdd, Nat.reduceSub, Nat.add_eq, Nat.add_zero, Nat.sub_self, if_true, if_false, Bool.false_eq_true, reduceIte, Option.getD_some, o_addI, o_slT, o_slS, o_slL, o_lenS, o_lenT, o_lenL, o_lenSc, o_tupS, o_tupL, o_tupT, o_ixT0, o_ixT1, o_ixT2, o_ixL0, o_ixL1, ty_str, sizeLine_eq, Nat.reduceLeDiff, Nat.zero_le, Nat.reduceLT, Int.reduceLT, Int.reduceLE, Int.reduceNeg, and_self, and_true, true_and, Int.reduceToNat]
        refine ⟨_, [stray] ++ rs, ns6, .lst _, fun q hq => ?_, by simp; omega, rfl, rfl⟩
        rcases List.mem_append.mp hq with z | z
        · have : q = stray := by simpa using z
          subst this
          exact ⟨gs1, gs2⟩
        · exact hr q z
    · simp -implicitDefEqProofs only [OkS.ret, OkS.seq, OkS.asg, OkS.exp, OkS.ite, OkS.skip, OkS.brk, OkS.cnt, OkS.for, OkS.while, OkE.bnd, OkE.toS, OkE.ok, OkE.nox, OkE.comp, OkS.nxt, OkS.rtn, mIf, mTest, mBin, mVar, mC, mCall, mCons, mNil, mStar, mSl, mPart, mNoPart, mMeth, mMeth0, mTup, mLst, mLstR, mNeg, mNot, mAnd, mOr, mAndV, mOrV, mNotV, mYes, mRng1, mWk, mEnum, mEnumZip, mZip, mFn, mPar, mPar3, mAug, mIsi, mExpr, gSet, gTupW, gConsW, gNilW, gPut, seqT, startW, wipeW, cName, cTup, cCons, cNil, oIntX, oInt, oAbs, oMin2, oGt, oGe, oLt, oLe, oMod, oFdiv, oSub, oIAdd, Res.bind_ok, Res.toS_ok, noX_okk, List.map_cons, List.map_nil, List.cons_append, List.nil_append, List.append_nil, List.getElem?_cons_zero, List.getElem?_cons_succ, List.set_cons_zero, List.set_cons_succ, List.length_cons, List.length_nil, List.replicate, Nat.reduceAdd, Nat.reduceSub, Nat.add_eq, Nat.add_zero, Nat.sub_self, if_true, if_false, Bool.false_eq_true, reduceIte, Option.getD_some, o_addI, o_slT, o_slS, o_slL, o_lenS, o_lenT, o_lenL, o_lenSc, o_tupS, o_tupL, o_tupT, o_ixT0, o_ixT1, o_ixT2, o_ixL0, o_ixL1, ty_str, sizeLine_eq, Nat.reduceLeDiff, Nat.zero_le, Nat.reduceLT, Int.reduceLT, Int.reduceLE, Int.reduceNeg, and_self, and_true, true_and, Int.reduceToNat, h2, decide_false]
      exact ⟨v, rs, ns6, hv, hr, by omega, rfl, rfl⟩
  clear hv hr hl
  rintro τ S ⟨v, rs, ns6, hv, hr, hl, rfl, rfl⟩
  -- the end
  simp -implicitDefEqProofs only [OkS.ret, OkS.seq, OkS.asg, OkS.exp, OkS.ite, OkS.skip, OkS.brk, OkS.cnt, OkS.for, OkS.while, OkE.bnd, OkE.toS, OkE.ok, OkE.nox, OkE.comp, OkS.nxt, OkS.rtn, mIf, mTest, mBin, mVar, mC, mCall, mCons, mNil, mStar, mSl, mPart, mNoPart, mMeth, mMeth0, mTup, mLst, mLstR, mNeg, mNot, mAnd, mOr, mAndV, mOrV, mNotV, mYes, mRng1, mEnum, mEnumZip, mZip, mFn, mPar, mPar3, mAug, mIsi, mExpr, gSet, gTupW, gConsW, gNilW, gPut, seqT, startW, wipeW, cName, cTup, cCons, cNil, oIntX, oInt, oAbs, oMin2, oGt, oGe, oLt, oLe, oMod, oFdiv, oSub, oIAdd, Res.bind_ok, Res.toS_ok, noX_okk, List.map_cons, List.map_nil, List.cons_append, List.nil_append, List.append_nil, List.getElem?_cons_zero, List.getElem?_cons_succ, List.set_cons_zero, List.set_cons_succ, List.length_cons, List.length_nil, List.replicate, Nat.reduceAdd, Nat.reduceSub, Nat.add_eq, Nat.add_zero, Nat.sub_self, if_true, if_false, Bool.false_eq_true, reduceIte, Option.getD_some, o_addI, o_slT, o_slS, o_slL, o_lenS, o_lenT, o_lenL, o_lenSc, o_tupS, o_tupL, o_tupT, o_ixT0, o_ixT1, o_ixT2, o_ixL0, o_ixL1, ty_str, sizeLine_eq, Nat.reduceLeDiff, Nat.zero_le, Nat.reduceLT, Int.reduceLT, Int.reduceLE, Int.reduceNeg, and_self, and_true, true_and, Int.reduceToNat]
  refine hv.comp (fun p => decide ((((p.1 ++ p.2).length : Nat) : Int) ≤ 8)) ruleW (by rw [sizeLine_eq]; omega) (fun p hp => ?_) ?_ 7 _ rfl
  · have gp := hr p hp
    have ea : ∀ S, oAdd (.str p.1) (.str p.2) S = .ok (.str (p.1 ++ p.2)) S := fun S => o_addS (by rw [sizeLine_eq]; have := gp.1.len; have := gp.2.len; omega)
    refine ⟨[some (.ref 0), some (.str name), some (.int (most : Nat)), some (.int 8), some (.lst (pl.map W.str)), x5, some (.lst (ws.map W.str)), some v, x8, x9, some (.int (mode : Nat)), some (.int (many : Nat)), none, some (.str sg), some (ruleW stray), some (ruleW p)], by simp -implicitDefEqProofs only [OkS.ret, OkS.seq, OkS.asg, OkS.exp, OkS.ite, OkS.skip, OkS.brk, OkS.cnt, OkS.for, OkS.while, OkE.bnd, OkE.toS, OkE.ok, OkE.nox, OkE.comp, OkS.nxt, OkS.rtn, mIf, mTest, mBin, mVar, mC, mCall, mCons, mNil, mStar, mSl, mPart, mNoPart, mMeth, mMeth0, mTup, mLst, mLstR, mNeg, mNot, mAnd, mOr, mAndV, mOrV, mNotV, mYes, mRng1, mWk, mEnum, mEnumZip, mZip, mFn, mPar, mPar3, mAug, mIsi, mExpr, gSet, gTupW, gConsW, gNilW, gPut, seqT, startW, wipeW, cName, cTup, cCons, cNil, oIntX, oInt, oAbs, oMin2, oGt, oGe, oLt, oLe, oMod, oFdiv, oSub, oIAdd, Res.bind_ok, Res.toS_ok, noX_okk, List.map_cons, List.map_nil, List.cons_append, List.nil_append, List.append_nil, List.getElem?_cons_zero, List.getElem?_cons_succ, List.set_cons_zero, List.set_cons_succ, List.length_cons, List.length_nil, List.replicate, Nat.reduceAdd, Nat.reduceSub, Nat.add_eq, Nat.add_zero, Nat.sub_self, if_true, if_false, Bool.false_eq_true, reduceIte, Option.getD_some, o_addI, o_slT, o_slS, o_slL, o_lenS, o_lenT, o_lenL, o_lenSc, o_tupS, o_tupL, o_tupT, o_ixT0, o_ixT1, o_ixT2, o_ixL0, o_ixL1, ty_str, sizeLine_eq, Nat.reduceLeDiff, Nat.zero_le, Nat.reduceLT, Int.reduceLT, Int.reduceLE, Int.reduceNeg, and_self, and_true, true_and, Int.reduceToNat], ?_, fun _ => by simp -implicitDefEqProofs only [OkS.ret, OkS.seq, OkS.asg, OkS.exp, OkS.ite, OkS.skip, OkS.brk, OkS.cnt, OkS.for, OkS.while, OkE.bnd, OkE.toS, OkE.ok, OkE.nox, OkE.comp, OkS.nxt, OkS.rtn, mIf, mTest, mBin, mVar, mC, mCall, mCons, mNil, mStar, mSl, mPart, mNoPart, mMeth, mMeth0, mTup, mLst, mLstR, mNeg, mNot, mAnd, mOr, mAndV, mOrV, mNotV, mYes, mRng1, mWk, mEnum, mEnumZip, mZip, mFn, mPar, mPar3, mAug, mIsi, mExpr, gSet, gTupW, gConsW, gNilW, gPut, seqT, startW, wipeW, cName, cTup, cCons, cNil, oIntX, oInt, oAbs, oMin2, oGt, oGe, oLt, oLe, oMod, oFdiv, oSub, oIAdd, Res.bind_ok, Res.toS_ok, noX_okk, List.map_cons, List.map_nil, List.cons_append, List.nil_append, List.append_nil, List.getElem?_cons_zero, List.getElem?_cons_succ, List.set_cons_zero, List.set_cons_succ, List.length_cons, List.length_nil, List.replicate, Nat.reduceAdd, Nat.reduceSub, Nat.add_eq, Nat.add_zero, Nat.sub_self, if_true, if_false, Bool.false_eq_true, reduceIte, Option.getD_some, o_addI, o_slT, o_slS, o_slL, o_lenS, o_lenT, o_lenL, o_lenSc, o_tupS, o_tupL, o_tupT, o_ixT0, o_ixT1, o_ixT2, o_ixL0, o_ixL1, ty_str, sizeLine_eq, Nat.reduceLeDiff, Nat.zero_le, Nat.reduceLT, Int.reduceLT, Int.reduceLE, Int.reduceNeg, and_self, and_true, true_and, Int.reduceToNat]⟩
    simp -implicitDefEqProofs only [OkS.ret, OkS.seq, OkS.asg, OkS.exp, OkS.ite, OkS.skip, OkS.brk, OkS.cnt, OkS.for, OkS.while, OkE.bnd, OkE.toS, OkE.ok, OkE.nox, OkE.comp, OkS.nxt, OkS.rtn, mIf, mTest, mBin, mVar, mC, mCall, mCons, mNil, mStar, mSl, mPart, mNoPart, mMeth, mMeth0, mTup, mLst, mLstR, mNeg, mNot, mAnd, mOr, mAndV, mOrV, mNotV, mYes, mRng1, mWk, mEnum, mEnumZip, mZip, mFn, mPar, mPar3, mAug, mIsi, mExpr, gSet, gTupW, gConsW, gNilW, gPut, seqT, startW, wipeW, cName, cTup, cCons, cNil, oIntX, oInt, oAbs, oMin2, oGt, oGe, oLt, oLe, oMod, oFdiv, oSub, oIAdd, Res.bind_ok, Res.toS_ok, noX_okk, List.map_cons, List.map_nil, List.cons_append, List.nil_append, List.append_nil, List.getElem?_cons_zero, List.getElem?_cons_succ, List.set_cons_zero, List.set_cons_succ, List.length_cons, List.length_nil, List.replicate, Nat.reduceAdd, Nat.reduceSub, Nat.add_eq, Nat.add_zero, Nat.sub_self, if_true, if_false, Bool.false_eq_true, reduceIte, Option.getD_some, o_addI, o_slT, o_slS, o_slL, o_lenS, o_lenT, o_lenL, o_lenSc, o_tupS, o_tupL, o_tupT, o_ixT0, o_ixT1, o_ixT2, o_ixL0, o_ixL1, ty_str, sizeLine_eq, Nat.reduceLeDiff, Nat.zero_le, Nat.reduceLT, Int.reduceLT, Int.reduceLE, Int.reduceNeg, and_self, and_true, true_and, Int.reduceToNat, ruleW, ea]
  · try simp -implicitDefEqProofs only [OkS.ret, OkS.seq, OkS.asg, OkS.exp, OkS.ite, OkS.skip, OkS.brk, OkS.cnt, OkS.for, OkS.while, OkE.bnd, OkE.toS, OkE.ok, OkE.nox, OkE.comp, OkS.nxt, OkS.rtn, mIf, mTest, mBin, mVar, mC, mCall, mCons, mNil, mStar, mSl, mPart, mNoPart, mMeth, mMeth0, mTup, mLst, mLstR, mNeg, mNot, mAnd, mOr, mAndV, mOrV, mNotV, mYes, mRng1, mWk, mEnum, mEnumZip, mZip, mFn, mPar, mPar3, mAug, mIsi, mExpr, gSet, gTupW, gConsW, gNilW, gPut, seqT, startW, wipeW, cName, cTup, cCons, cNil, oIntX, oInt, oAbs, oMin2, oGt, oGe, oLt, oLe, oMod, oFdiv, oSub, oIAdd, Res.bind_ok, Res.toS_ok, noX_okk, List.map_cons, List.map_nil, List.cons_append, List.nil_append, List.append_nil, List.getElem?_cons_zero, List.getElem?_cons_succ, List.set_cons_zero, List.set_cons_succ, List.length_cons, List.length_nil, List.replicate, Nat.reduceAdd, Nat.reduceSub, Nat.add_eq, Nat.add_zero, Nat.sub_self, if_true, if_false, Bool.false_eq_true, reduceIte, Option.getD_some, o_addI, o_slT, o_slS, o_slL, o_lenS, o_lenT, o_lenL, o_lenSc, o_tupS, o_tupL, o_tupT, o_ixT0, o_ixT1, o_ixT2, o_ixL0, o_ixL1, ty_str, sizeLine_eq, Nat.reduceLeDiff, Nat.zero_le, Nat.reduceLT, Int.reduceLT, Int.reduceLE, Int.reduceNeg, and_self, and_true, true_and, Int.reduceToNat]
    rw [cutW_to, ← List.map_take]
    refine ⟨rules_data _, st2_cut, ?_⟩
    have := h ((rs.filter fun p => decide ((((p.1 ++ p.2).length : Nat) : Int) ≤ 8)).take most) ns6 (fun q hq => hr q (List.mem_filter.mp (List.mem_of_mem_take hq)).1) (by rw [List.length_take]; omega)
    simpa using this
end Gen
namespace Gen
open PySem PySem.Spec PyProof.Rows L2 Eng
theorem manner_ok {ns : List Int} {R : Store} {Q : W → Store → Prop} (h : ∀ m ns', Q (.str m) (rowO ns' :: R)) : OkE (m__law_manner [.ref 0] (rowO ns :: R)) Q := by
  unfold m__law_manner fnRes b__law_manner
  refine OkE.leave ?_
  simp -implicitDefEqProofs only [OkS.ret, OkS.seq, OkS.asg, OkS.exp, OkS.ite, OkS.skip, OkS.brk, OkS.cnt, OkS.for, OkS.while, OkE.bnd, OkE.toS, OkE.ok, OkE.nox, OkE.comp, OkS.nxt, OkS.rtn, mIf, mTest, mBin, mVar, mC, mCall, mCons, mNil, mStar, mSl, mPart, mNoPart, mMeth, mMeth0, mTup, mLst, mLstR, mNeg, mNot, mAnd, mOr, mAndV, mOrV, mNotV, mYes, mRng1, mWk, mEnum, mEnumZip, mZip, mFn, mPar, mPar3, mAug, mIsi, mExpr, gSet, gTupW, gConsW, gNilW, gPut, seqT, startW, wipeW, cName, cTup, cCons, cNil, oIntX, oInt, oAbs, oMin2, oGt, oGe, oLt, oLe, oMod, oFdiv, oSub, oIAdd, Res.bind_ok, Res.toS_ok, noX_okk, List.map_cons, List.map_nil, List.cons_append, List.nil_append, List.append_nil, List.getElem?_cons_zero, List.getElem?_cons_succ, List.set_cons_zero, List.set_cons_succ, List.length_cons, List.length_nil, List.replicate, Nat.reduceAdd, Nat.reduceSub, Nat.add_eq, Nat.add_zero, Nat.sub_self, if_true, if_false, Bool.false_eq_true, reduceIte, Option.getD_some, o_addI, o_slT, o_slS, o_slL, o_lenS, o_lenT, o_lenL, o_lenSc, o_tupS, o_tupL, o_tupT, o_ixT0, o_ixT1, o_ixT2, o_ixL0, o_ixL1, ty_str, sizeLine_eq, Nat.reduceLeDiff, Nat.zero_le, Nat.reduceLT, Int.reduceLT, Int.reduceLE, Int.reduceNeg, and_self, and_true, true_and, Int.reduceToNat]
  refine take_ok (by omega) fun r ns' hr => ?_
  let ms : List Str := ["ranked", "rightranked", "leftmost", "rightmost", "once"]
  have hr5 : r < ms.length := by show r < 5; omega
  rw [show ([W.str "ranked", W.str "rightranked", W.str "leftmost", W.str "rightmost", W.str "once"] : List W) = ms.map W.str from rfl, o_ixT (xs := ms.map W.str) (x := .str ms[r]) (by rw [atI_n, List.getElem?_map, List.getElem?_eq_getElem hr5]; rfl), OkE.ok]
  refine ⟨rfl, cut_row, ?_⟩
  rw [List.take_of_length_le (by simp)]
  exact h _ ns'
def names : List Str := ["ab", "a", "abc", "zm", "q", "zay", "pq", "mxb", "dbca", "ba"]
theorem names_ok : ∀ n ∈ names, okS n = true ∧ n.length ∈ [1, 2, 3, 4] ∧ (signsS n).Nodup := by decide +kernel
structure TabOk (ls : List Str) (rs : List Rule) : Prop where
  nd : ls.Nodup
  len : ls.length ≤ 4
  ne : 0 < ls.length
  ok : ∀ x ∈ ls, Good x
  rok : RulesOk rs
  rlen : rs.length ≤ 6
theorem tab_data {ls : List Str} {rs : List Rule} {m : Str} : (tabW ls rs m).isData = true := by
  unfold tabW
  rw [W.isData, allData, allData, allData, allData, str_data, rules_data]
  rfl
theorem table_ok {ns : List Int} {Q : W → Store → Prop} (h : ∀ ls rs m ns', TabOk ls rs → Q (tabW ls rs m) [rowO ns']) : OkE (m__law_table [.ref 0, .int 6, .int 8] [rowO ns]) Q := by
  unfold m__law_table fnRes b__law_table
  refine OkE.leave ?_
  simp -implicitDefEqProofs only [OkS.ret, OkS.seq, OkS.asg, OkS.exp, OkS.ite, OkS.skip, OkS.brk, OkS.cnt, OkS.for, OkS.while, OkE.bnd, OkE.toS, OkE.ok, OkE.nox, OkE.comp, OkS.nxt, OkS.rtn, mIf, mTest, mBin, mVar, mC, mCall, mCons, mNil, mStar, mSl, mPart, mNoPart, mMeth, mMeth0, mTup, mLst, mLstR, mNeg, mNot, mAnd, mOr, mAndV, mOrV, mNotV, mYes, mRng1, mWk, mEnum, mEnumZip, mZip, mFn, mPar, mPar3, mAug, mIsi, mExpr, gSet, gTupW, gConsW, gNilW, gPut, seqT, startW, wipeW, cName, cTup, cCons, cNil, oIntX, oInt, oAbs, oMin2, oGt, oGe, oLt, oLe, oMod, oFdiv, oSub, oIAdd, Res.bind_ok, Res.toS_ok, noX_okk, List.map_cons, List.map_nil, List.cons_append, List.nil_append, List.append_nil, List.getElem?_cons_zero, List.getElem?_cons_succ, List.set_cons_zero, List.set_cons_succ, List.length_cons, List.length_nil, List.replicate, Nat.reduceAdd, Nat.reduceSub, Nat.add_eq, Nat.add_zero, Nat.sub_self, if_true, if_false, Bool.false_eq_true, reduceIte, Option.getD_some, o_addI, o_slT, o_slS, o_slL, o_lenS, o_lenT, o_lenL, o_lenSc, o_tupS, o_tupL, o_tupT, o_ixT0, o_ixT1, o_ixT2, o_ixL0, o_ixL1, ty_str, sizeLine_eq, Nat.reduceLeDiff, Nat.zero_le, Nat.reduceLT, Int.reduceLT, Int.reduceLE, Int.reduceNeg, and_self, and_true, true_and, Int.reduceToNat]
  refine take_ok (by omega) fun r ns1 hr => ?_
  have hr10 : r < names.length := by show r < 10; omega
  rw [show ([W.str "ab", W.str "a", W.str "abc", W.str "zm", W.str "q", W.str "zay", W.str "pq", W.str "mxb", W.str "dbca", W.str "ba"] : List W) = names.map W.str from rfl, o_ixL (xs := names.map W.str) (x := .str names[r]) (by rw [atI_n, List.getElem?_map, List.getElem?_eq_getElem hr10]; rfl), OkE.ok]
  obtain ⟨n1, n2, n3⟩ := names_ok names[r] (List.getElem_mem hr10)
  generalize names[r] = name at n1 n2 n3
  have hn : NameOk name := ⟨n1, n2⟩
  refine manner_ok fun m ns2 => ?_
  have es : ∀ S, oSorted [.str name] S = .ok (.lst ((srt ltS (signsS name)).map W.str)) S := fun S => rfl
  simp -implicitDefEqProofs only [OkS.ret, OkS.seq, OkS.asg, OkS.exp, OkS.ite, OkS.skip, OkS.brk, OkS.cnt, OkS.for, OkS.while, OkE.bnd, OkE.toS, OkE.ok, OkE.nox, OkE.comp, OkS.nxt, OkS.rtn, mIf, mTest, mBin, mVar, mC, mCall, mCons, mNil, mStar, mSl, mPart, mNoPart, mMeth, mMeth0, mTup, mLst, mLstR, mNeg, mNot, mAnd, mOr, mAndV, mOrV, mNotV, mYes, mRng1, mWk, mEnum, mEnumZip, mZip, mFn, mPar, mPar3, mAug, mIsi, mExpr, gSet, gTupW, gConsW, gNilW, gPut, seqT, startW, wipeW, cName, cTup, cCons, cNil, oIntX, oInt, oAbs, oMin2, oGt, oGe, oLt, oLe, oMod, oFdiv, oSub, oIAdd, Res.bind_ok, Res.toS_ok, noX_okk, List.map_cons, List.map_nil, List.cons_append, List.nil_append, List.append_nil, List.getElem?_cons_zero, List.getElem?_cons_succ, List.set_cons_zero, List.set_cons_succ, List.length_cons, List.length_nil, List.replicate, Nat.reduceAdd, Nat.reduceSub, Nat.add_eq, Nat.add_zero, Nat.sub_self, if_true, if_false, Bool.false_eq_true, reduceIte, Option.getD_some, o_addI, o_slT, o_slS, o_slL, o_lenS, o_lenT, o_lenL, o_lenSc, o_tupS, o_tupL, o_tupT, o_ixT0, o_ixT1, o_ixT2, o_ixL0, o_ixL1, ty_str, sizeLine_eq, Nat.reduceLeDiff, Nat.zero_le, Nat.reduceLT, Int.reduceLT, Int.reduceLE, Int.reduceNeg, and_self, and_true, true_and, Int.reduceToNat, es]
  refine rules_ok (most := 6) hn (by omega) fun rs ns3 hr hl => ?_
  have hp := srt_perm (lt := ltS) (signsS name)
  have hT : TabOk (srt ltS (signsS name)) rs := by
    have hlen := hp.length_eq
    rw [signs_len] at hlen
    have hm : name.length = 1 ∨ name.length = 2 ∨ name.length = 3 ∨ name.length = 4 := by simpa using n2
    exact ⟨hp.nodup_iff.mpr n3, by omega, by omega, fun x hx => in_ruleN hn x (hp.mem_iff.mp hx), hr, hl⟩
  refine ⟨tab_data, cut_row, ?_⟩
  exact h _ rs m ns3 hT
theorem signs_row {z : Str} (h : z.length ≤ 8) : RowOk (signsS z) := by
  refine ⟨by rw [signs_len]; exact h, ?_⟩
  unfold rlen
  have : ∀ x ∈ signsS z, x.length = 1 := fun x hx => by
    unfold signsS at hx
    obtain ⟨c, _, rfl⟩ := List.mem_map.mp hx
    rfl
  rw [sum_const (f := fun x : Str => x.length) (c := 1) this, signs_len]
  omega
theorem cut_len {x : Str} {lo hi : Option Int} : (cutS x lo hi).length ≤ x.length := by
  show (List.toArray _).size ≤ x.length
  rw [List.size_toArray, List.length_take, List.length_drop]
  have e : x.cps.toList.length = x.length := rfl
  omega
theorem text_ok {ls : List Str} {rs : List Rule} {m : Str} {ns : List Int} {Q : W → Store → Prop} (T : TabOk ls rs) (h : ∀ z ns', z.length ≤ 8 → Q (.str z) [rowO ns']) : OkE (m__law_text [.ref 0, tabW ls rs m] [rowO ns]) Q := by
  unfold m__law_text fnRes b__law_text
  refine OkE.leave ?_
  have e0 : ∀ S, oListXR [.tup (ls.map W.str)] S = .ok (.ref S.length) (S ++ [.lst (ls.map W.str)]) := fun S => rfl
  have h1 := T.len
  have h2 := T.rlen
  have h3 := T.ne
  let blocks : List Str := ls ++ rs.map fun p => p.1 ++ p.2
  have hblk : ∀ x ∈ blocks, Piece x := fun x hx => by
    rcases List.mem_append.mp hx with z | z
    · exact (T.ok x z).piece
    · obtain ⟨p, hp, rfl⟩ := List.mem_map.mp z
      exact (T.rok p hp).1.two (T.rok p hp).2
  have hbl : blocks.length = ls.length + rs.length := by show (ls ++ rs.map fun p => p.1 ++ p.2).length = _; simp
  have eblk : ls.map W.str ++ rs.map (fun p : Rule => W.str (p.1 ++ p.2)) = blocks.map W.str := by
    show _ = (ls ++ rs.map fun p => p.1 ++ p.2).map W.str
    rw [List.map_append, List.map_map]
    rfl
  simp -implicitDefEqProofs only [OkS.ret, OkS.seq, OkS.asg, OkS.exp, OkS.ite, OkS.skip, OkS.brk, OkS.cnt, OkS.for, OkS.while, OkE.bnd, OkE.toS, OkE.ok, OkE.nox, OkE.comp, OkS.nxt, OkS.rtn, mIf, mTest, mBin, mVar, mC, mCall, mCons, mNil, mStar, mSl, mPart, mNoPart, mMeth, mMeth0, mTup, mLst, mLstR, mNeg, mNot, mAnd, mOr, mAndV, mOrV, mNotV, mYes, mRng1, mWk, mEnum, mEnumZip, mZip, mFn, mPar, mPar3, mAug, mIsi, mExpr, gSet, gTupW, gConsW, gNilW, gPut, seqT, startW, wipeW, cName, cTup, cCons, cNil, oIntX, oInt, oAbs, oMin2, oGt, oGe, oLt, oLe, oMod, oFdiv, oSub, oIAdd, Res.bind_ok, Res.toS_ok, noX_okk, List.map_cons, List.map_nil, List.cons_append, List.nil_append, List.append_nil, List.getElem?_cons_zero, List.getElem?_cons_succ, List.set_cons_zero, List.set_cons_succ, List.length_cons, List.length_nil, List.replicate, Nat.reduceAdd, Nat.reduceSub, Nat.add_eq, Nat.add_zero, Nat.sub_self, if_true, if_false, Bool.false_eq_true, reduceIte, Option.getD_some, o_addI, o_slT, o_slS, o_slL, o_lenS, o_lenT, o_lenL, o_lenSc, o_tupS, o_tupL, o_tupT, o_ixT0, o_ixT1, o_ixT2, o_ixL0, o_ixL1, ty_str, sizeLine_eq, Nat.reduceLeDiff, Nat.zero_le, Nat.reduceLT, Int.reduceLT, Int.reduceLE, Int.reduceNeg, and_self, and_true, true_and, Int.reduceToNat, tab_ix0, tab_ix, e0]
  refine comp_pure (fun _ => true) (fun p => W.str (p.1 ++ p.2)) (by rw [sizeLine_eq]; omega) (fun p hp => ?_) ?_
  · refine ⟨[some (.ref 0), some (tabW ls rs m), some (.ref 1), some (.str ""), some (.str p.1), some (.str p.2), none, none], by simp -implicitDefEqProofs only [OkS.ret, OkS.seq, OkS.asg, OkS.exp, OkS.ite, OkS.skip, OkS.brk, OkS.cnt, OkS.for, OkS.while, OkE.bnd, OkE.toS, OkE.ok, OkE.nox, OkE.comp, OkS.nxt, OkS.rtn, mIf, mTest, mBin, mVar, mC, mCall, mCons, mNil, mStar, mSl, mPart, mNoPart, mMeth, mMeth0, mTup, mLst, mLstR, mNeg, mNot, mAnd, mOr, mAndV, mOrV, mNotV, mYes, mRng1, mWk, mEnum, mEnumZip, mZip, mFn, mPar, mPar3, mAug, mIsi, mExpr, gSet, gTupW, gConsW, gNilW, gPut, seqT, startW, wipeW, cName, cTup, cCons, cNil, oIntX, oInt, oAbs, oMin2, oGt, oGe, oLt, oLe, oMod, oFdiv, oSub, oIAdd, Res.bind_ok, Res.toS_ok, noX_okk, List.map_cons, List.map_nil, List.cons_append, List.nil_append, List.append_nil, List.getElem?_cons_zero, List.getElem?_cons_succ, List.set_cons_zero, List.set_cons_succ, List.length_cons, List.length_nil, List.replicate, Nat.reduceAdd, Nat.reduceSub, Nat.add_eq, Nat.add_zero, Nat.sub_self, if_true, if_false, Bool.false_eq_true, reduceIte, Option.getD_some, o_addI, o_slT, o_slS, o_slL, o_lenS, o_lenT, o_lenL, o_lenSc, o_tupS, o_tupL, o_tupT, o_ixT0, o_ixT1, o_ixT2, o_ixL0, o_ixL1, ty_str, sizeLine_eq, Nat.reduceLeDiff, Nat.zero_le, Nat.reduceLT, Int.reduceLT, Int.reduceLE, Int.reduceNeg, and_self, and_true, true_and, Int.reduceToNat, ruleW], rfl, fun _ => ?_⟩
    have hp := T.rok p hp
    simp -implicitDefEqProofs only [OkS.ret, OkS.seq, OkS.asg, OkS.exp, OkS.ite, OkS.skip, OkS.brk, OkS.cnt, OkS.for, OkS.while, OkE.bnd, OkE.toS, OkE.ok, OkE.nox, OkE.comp, OkS.nxt, OkS.rtn, mIf, mTest, mBin, mVar, mC, mCall, mCons, mNil, mStar, mSl, mPart, mNoPart, mMeth, mMeth0, mTup, mLst, mLstR, mNeg, mNot, mAnd, mOr, mAndV, mOrV, mNotV, mYes, mRng1, mWk, mEnum, mEnumZip, mZip, mFn, mPar, mPar3, mAug, mIsi, mExpr, gSet, gTupW, gConsW, gNilW, gPut, seqT, startW, wipeW, cName, cTup, cCons, cNil, oIntX, oInt, oAbs, oMin2, oGt, oGe, oLt, oLe, oMod, oFdiv, oSub, oIAdd, Res.bind_ok, Res.toS_ok, noX_okk, List.map_cons, List.map_nil, List.cons_append, List.nil_append, List.append_nil, List.getElem?_cons_zero, List.getElem?_cons_succ, List.set_cons_zero, List.set_cons_succ, List.length_cons, List.length_nil, List.replicate, Nat.reduceAdd, Nat.reduceSub, Nat.add_eq, Nat.add_zero, Nat.sub_self, if_true, if_false, Bool.false_eq_true, reduceIte, Option.getD_some, o_addI, o_slT, o_slS, o_slL, o_lenS, o_lenT, o_lenL, o_lenSc, o_tupS, o_tupL, o_tupT, o_ixT0, o_ixT1, o_ixT2, o_ixL0, o_ixL1, ty_str, sizeLine_eq, Nat.reduceLeDiff, Nat.zero_le, Nat.reduceLT, Int.reduceLT, Int.reduceLE, Int.reduceNeg, and_self, and_true, true_and, Int.reduceToNat]
    rw [o_addS (by rw [sizeLine_eq]; have := hp.1.len; have := hp.2.len; omega)]
    rfl
  rw [List.filter_eq_self.mpr (fun _ _ => rfl)]
  simp -implicitDefEqProofs only [OkS.ret, OkS.seq, OkS.asg, OkS.exp, OkS.ite, OkS.skip, OkS.brk, OkS.cnt, OkS.for, OkS.while, OkE.bnd, OkE.toS, OkE.ok, OkE.nox, OkE.comp, OkS.nxt, OkS.rtn, mIf, mTest, mBin, mVar, mC, mCall, mCons, mNil, mStar, mSl, mPart, mNoPart, mMeth, mMeth0, mTup, mLst, mLstR, mNeg, mNot, mAnd, mOr, mAndV, mOrV, mNotV, mYes, mRng1, mWk, mEnum, mEnumZip, mZip, mFn, mPar, mPar3, mAug, mIsi, mExpr, gSet, gTupW, gConsW, gNilW, gPut, seqT, startW, wipeW, cName, cTup, cCons, cNil, oIntX, oInt, oAbs, oMin2, oGt, oGe, oLt, oLe, oMod, oFdiv, oSub, oIAdd, Res.bind_ok, Res.toS_ok, noX_okk, List.map_cons, List.map_nil, List.cons_append, List.nil_append, List.append_nil, List.getElem?_cons_zero, List.getElem?_cons_succ, List.set_cons_zero, List.set_cons_succ, List.length_cons, List.length_nil, List.replicate, Nat.reduceAdd, Nat.reduceSub, Nat.add_eq, Nat.add_zero, Nat.sub_self, if_true, if_false, Bool.false_eq_true, reduceIte, Option.getD_some, o_addI, o_slT, o_slS, o_slL, o_lenS, o_lenT, o_lenL, o_lenSc, o_tupS, o_tupL, o_tupT, o_ixT0, o_ixT1, o_ixT2, o_ixL0, o_ixL1, ty_str, sizeLine_eq, Nat.reduceLeDiff, Nat.zero_le, Nat.reduceLT, Int.reduceLT, Int.reduceLE, Int.reduceNeg, and_self, and_true, true_and, Int.reduceToNat, seqM, List.length_map]
  rw [if_pos (by omega), eblk]
  simp -implicitDefEqProofs only [OkS.ret, OkS.seq, OkS.asg, OkS.exp, OkS.ite, OkS.skip, OkS.brk, OkS.cnt, OkS.for, OkS.while, OkE.bnd, OkE.toS, OkE.ok, OkE.nox, OkE.comp, OkS.nxt, OkS.rtn, mIf, mTest, mBin, mVar, mC, mCall, mCons, mNil, mStar, mSl, mPart, mNoPart, mMeth, mMeth0, mTup, mLst, mLstR, mNeg, mNot, mAnd, mOr, mAndV, mOrV, mNotV, mYes, mRng1, mWk, mEnum, mEnumZip, mZip, mFn, mPar, mPar3, mAug, mIsi, mExpr, gSet, gTupW, gConsW, gNilW, gPut, seqT, startW, wipeW, cName, cTup, cCons, cNil, oIntX, oInt, oAbs, oMin2, oGt, oGe, oLt, oLe, oMod, oFdiv, oSub, oIAdd, Res.bind_ok, Res.toS_ok, noX_okk, List.map_cons, List.map_nil, List.cons_append, List.nil_append, List.append_nil, List.getElem?_cons_zero, List.getElem?_cons_succ, List.set_cons_zero, List.set_cons_succ, List.length_cons, List.length_nil, List.replicate, Nat.reduceAdd, Nat.reduceSub, Nat.add_eq, Nat.add_zero, Nat.sub_self, if_true, if_false, Bool.false_eq_true, reduceIte, Option.getD_some, o_addI, o_slT, o_slS, o_slL, o_lenS, o_lenT, o_lenL, o_lenSc, o_tupS, o_tupL, o_tupT, o_ixT0, o_ixT1, o_ixT2, o_ixL0, o_ixL1, ty_str, sizeLine_eq, Nat.reduceLeDiff, Nat.zero_le, Nat.reduceLT, Int.reduceLT, Int.reduceLE, Int.reduceNeg, and_self, and_true, true_and, Int.reduceToNat, List.length_map]
  rw [if_pos (by decide), OkE.ok, rangeW_map]
  refine for_map (fun pre τ S => ∃ line ns' x6 x7, line.length ≤ 8 ∧ τ = [some (.ref 0), some (tabW ls rs m), some (.ref 1), some (.str line), none, none, x6, x7] ∧ S = [rowO ns', .lst (blocks.map W.str)]) ⟨"", ns, _, _, by decide, rfl, rfl⟩ ?_ ?_
  · rintro pre k post τ S e ⟨line, ns', x6, x7, hl, rfl, rfl⟩
    simp -implicitDefEqProofs only [OkS.ret, OkS.seq, OkS.asg, OkS.exp, OkS.ite, OkS.skip, OkS.brk, OkS.cnt, OkS.for, OkS.while, OkE.bnd, OkE.toS, OkE.ok, OkE.nox, OkE.comp, OkS.nxt, OkS.rtn, mIf, mTest, mBin, mVar, mC, mCall, mCons, mNil, mStar, mSl, mPart, mNoPart, mMeth, mMeth0, mTup, mLst, mLstR, mNeg, mNot, mAnd, mOr, mAndV, mOrV, mNotV, mYes, mRng1, mWk, mEnum, mEnumZip, mZip, mFn, mPar, mPar3, mAug, mIsi, mExpr, gSet, gTupW, gConsW, gNilW, gPut, seqT, startW, wipeW, cName, cTup, cCons, cNil, oIntX, oInt, oAbs, oMin2, oGt, oGe, oLt, oLe, oMod, oFdiv, oSub, oIAdd, Res.bind_ok, Res.toS_ok, noX_okk, List.map_cons, List.map_nil, List.cons_append, List.nil_append, List.append_nil, List.getElem?_cons_zero, List.getElem?_cons_succ, List.set_cons_zero, List.set_cons_succ, List.length_cons, List.length_nil, List.replicate, Nat.reduceAdd, Nat.reduceSub, Nat.add_eq, Nat.add_zero, Nat.sub_self, if_true, if_false, Bool.false_eq_true, reduceIte, Option.getD_some, o_addI, o_slT, o_slS, o_slL, o_lenS, o_lenT, o_lenL, o_lenSc, o_tupS, o_tupL, o_tupT, o_ixT0, o_ixT1, o_ixT2, o_ixL0, o_ixL1, ty_str, sizeLine_eq, Nat.reduceLeDiff, Nat.zero_le, Nat.reduceLT, Int.reduceLT, Int.reduceLE, Int.reduceNeg, and_self, and_true, true_and, Int.reduceToNat, o_lenR (S := [rowO ns', .lst (blocks.map W.str)]) (n := 1) (xs := blocks.map W.str) rfl, List.length_map]
    refine take_ok (by omega) fun r ns2 hr => ?_
    have hrb : r < blocks.length := by omega
    rw [o_ixR (S := [rowO ns2, .lst (blocks.map W.str)]) (n := 1) (xs := blocks.map W.str) (x := .str blocks[r]) rfl (by rw [atI_n, List.getElem?_map, List.getElem?_eq_getElem hrb]; rfl), OkE.ok]
    have q := hblk _ (List.getElem_mem hrb)
    generalize blocks[r] = b at q
    have ea : ∀ S, oAdd (.str line) (.str b) S = .ok (.str (line ++ b)) S := fun S => o_addS (by rw [sizeLine_eq]; have := q.len; omega)
    simp -implicitDefEqProofs only [OkS.ret, OkS.seq, OkS.asg, OkS.exp, OkS.ite, OkS.skip, OkS.brk, OkS.cnt, OkS.for, OkS.while, OkE.bnd, OkE.toS, OkE.ok, OkE.nox, OkE.comp, OkS.nxt, OkS.rtn, mIf, mTest, mBin, mVar, mC, mCall, mCons, mNil, mStar, mSl, mPart, mNoPart, mMeth, mMeth0, mTup, mLst, mLstR, mNeg, mNot, mAnd, mOr, mAndV, mOrV, mNotV, mYes, mRng1, mWk, mEnum, mEnumZip, mZip, mFn, mPar, mPar3, mAug, mIsi, mExpr, gSet, gTupW, gConsW, gNilW, gPut, seqT, startW, wipeW, cName, cTup, cCons, cNil, oIntX, oInt, oAbs, oMin2, oGt, oGe, oLt, oLe, oMod, oFdiv, oSub, oIAdd, Res.bind_ok, Res.toS_ok, noX_okk, List.map_cons, List.map_nil, List.cons_append, List.nil_append, List.append_nil, List.getElem?_cons_zero, List.getElem?_cons_succ, List.set_cons_zero, List.set_cons_succ, List.length_cons, List.length_nil, List.replicate, Nat.reduceAdd, Nat.reduceSub, Nat.add_eq, Nat.add_zero, Nat.sub_self, if_true, if_false, Bool.false_eq_true, reduceIte, Option.getD_some, o_addI, o_slT, o_slS, o_slL, o_lenS, o_lenT, o_lenL, o_lenSc, o_tupS, o_tupL, o_tupT, o_ixT0, o_ixT1, o_ixT2, o_ixL0, o_ixL1, ty_str, sizeLine_eq, Nat.reduceLeDiff, Nat.zero_le, Nat.reduceLT, Int.reduceLT, Int.reduceLE, Int.reduceNeg, and_self, and_true, true_and, Int.reduceToNat, ea]
    by_cases hle : (((line ++ b).length : Nat) : Int) ≤ 8
    · simp -implicitDefEqProofs only [OkS.ret, OkS.seq, OkS.asg, OkS.exp, OkS.ite, OkS.skip, OkS.brk, OkS.cnt, OkS.for, OkS.while, OkE.bnd, OkE.toS, OkE.ok, OkE.nox, OkE.comp, OkS.nxt, OkS.rtn, mIf, mTest, mBin, mVar, mC, mCall, mCons, mNil, mStar, mSl, mPart, mNoPart, mMeth, mMeth0, mTup, mLst, mLstR, mNeg, mNot, mAnd, mOr, mAndV, mOrV, mNotV, mYes, mRng1, mWk, mEnum, mEnumZip, mZip, mFn, mPar, mPar3, mAug, mIsi, mExpr, gSet, gTupW, gConsW, gNilW, gPut, seqT, startW, wipeW, cName, cTup, cCons, cNil, oIntX, oInt, oAbs, oMin2, oGt, oGe, oLt, oLe, oMod, oFdiv, oSub, oIAdd, Res.bind_ok, Res.toS_ok, noX_okk, List.map_cons, List.map_nil, List.cons_append, List.nil_append, List.append_nil, List.getElem?_cons_zero, List.getElem?_cons_succ, List.set_cons_zero, List.set_cons_succ, List.length_cons, List.length_nil, List.replicate, Nat.reduceAdd, Nat.reduceSub, Nat.add_eq, Nat.add_zero, Nat.sub_self, if_true, if_false, Bool.false_eq_true, reduceIte, Option.getD_some, o_addI, o_slT, o_slS, o_slL, o_lenS, o_lenT, o_lenL, o_lenSc, o_tupS, o_tupL, o_tupT, o_ixT0, o_ixT1, o_ixT2, o_ixL0, o_ixL1, ty_str, sizeLine_eq, Nat.reduceLeDiff, Nat.zero_le, Nat.reduceLT, Int.reduceLT, Int.reduceLE, Int.reduceNeg, and_self, and_true, true_and, Int.reduceToNat, hle, decide_true, ea]
      exact ⟨line ++ b, ns2, _, _, by omega, rfl, rfl⟩
    · simp -implicitDefEqProofs only [OkS.ret, OkS.seq, OkS.asg, OkS.exp, OkS.ite, OkS.skip, OkS.brk, OkS.cnt, OkS.for, OkS.while, OkE.bnd, OkE.toS, OkE.ok, OkE.nox, OkE.comp, OkS.nxt, OkS.rtn, mIf, mTest, mBin, mVar, mC, mCall, mCons, mNil, mStar, mSl, mPart, mNoPart, mMeth, mMeth0, mTup, mLst, mLstR, mNeg, mNot, mAnd, mOr, mAndV, mOrV, mNotV, mYes, mRng1, mWk, mEnum, mEnumZip, mZip, mFn, mPar, mPar3, mAug, mIsi, mExpr, gSet, gTupW, gConsW, gNilW, gPut, seqT, startW, wipeW, cName, cTup, cCons, cNil, oIntX, oInt, oAbs, oMin2, oGt, oGe, oLt, oLe, oMod, oFdiv, oSub, oIAdd, Res.bind_ok, Res.toS_ok, noX_okk, List.map_cons, List.map_nil, List.cons_append, List.nil_append, List.append_nil, List.getElem?_cons_zero, List.getElem?_cons_succ, List.set_cons_zero, List.set_cons_succ, List.length_cons, List.length_nil, List.replicate, Nat.reduceAdd, Nat.reduceSub, Nat.add_eq, Nat.add_zero, Nat.sub_self, if_true, if_false, Bool.false_eq_true, reduceIte, Option.getD_some, o_addI, o_slT, o_slS, o_slL, o_lenS, o_lenT, o_lenL, o_lenSc, o_tupS, o_tupL, o_tupT, o_ixT0, o_ixT1, o_ixT2, o_ixL0, o_ixL1, ty_str, sizeLine_eq, Nat.reduceLeDiff, Nat.zero_le, Nat.reduceLT, Int.reduceLT, Int.reduceLE, Int.reduceNeg, and_self, and_true, true_and, Int.reduceToNat, hle, decide_false]
      exact ⟨line, ns2, _, _, hl, rfl, rfl⟩
  · rintro τ S ⟨line, ns', x6, x7, hl, rfl, rfl⟩
    simp -implicitDefEqProofs only [OkS.ret, OkS.seq, OkS.asg, OkS.exp, OkS.ite, OkS.skip, OkS.brk, OkS.cnt, OkS.for, OkS.while, OkE.bnd, OkE.toS, OkE.ok, OkE.nox, OkE.comp, OkS.nxt, OkS.rtn, mIf, mTest, mBin, mVar, mC, mCall, mCons, mNil, mStar, mSl, mPart, mNoPart, mMeth, mMeth0, mTup, mLst, mLstR, mNeg, mNot, mAnd, mOr, mAndV, mOrV, mNotV, mYes, mRng1, mWk, mEnum, mEnumZip, mZip, mFn, mPar, mPar3, mAug, mIsi, mExpr, gSet, gTupW, gConsW, gNilW, gPut, seqT, startW, wipeW, cName, cTup, cCons, cNil, oIntX, oInt, oAbs, oMin2, oGt, oGe, oLt, oLe, oMod, oFdiv, oSub, oIAdd, Res.bind_ok, Res.toS_ok, noX_okk, List.map_cons, List.map_nil, List.cons_append, List.nil_append, List.append_nil, List.getElem?_cons_zero, List.getElem?_cons_succ, List.set_cons_zero, List.set_cons_succ, List.length_cons, List.length_nil, List.replicate, Nat.reduceAdd, Nat.reduceSub, Nat.add_eq, Nat.add_zero, Nat.sub_self, if_true, if_false, Bool.false_eq_true, reduceIte, Option.getD_some, o_addI, o_slT, o_slS, o_slL, o_lenS, o_lenT, o_lenL, o_lenSc, o_tupS, o_tupL, o_tupT, o_ixT0, o_ixT1, o_ixT2, o_ixL0, o_ixL1, ty_str, sizeLine_eq, Nat.reduceLeDiff, Nat.zero_le, Nat.reduceLT, Int.reduceLT, Int.reduceLE, Int.reduceNeg, and_self, and_true, true_and, Int.reduceToNat]
    refine take_ok (by omega) fun r ns2 hr => ?_
    try simp -implicitDefEqProofs only [OkS.ret, OkS.seq, OkS.asg, OkS.exp, OkS.ite, OkS.skip, OkS.brk, OkS.cnt, OkS.for, OkS.while, OkE.bnd, OkE.toS, OkE.ok, OkE.nox, OkE.comp, OkS.nxt, OkS.rtn, mIf, mTest, mBin, mVar, mC, mCall, mCons, mNil, mStar, mSl, mPart, mNoPart, mMeth, mMeth0, mTup, mLst, mLstR, mNeg, mNot, mAnd, mOr, mAndV, mOrV, mNotV, mYes, mRng1, mWk, mEnum, mEnumZip, mZip, mFn, mPar, mPar3, mAug, mIsi, mExpr, gSet, gTupW, gConsW, gNilW, gPut, seqT, startW, wipeW, cName, cTup, cCons, cNil, oIntX, oInt, oAbs, oMin2, oGt, oGe, oLt, oLe, oMod, oFdiv, oSub, oIAdd, Res.bind_ok, Res.toS_ok, noX_okk, List.map_cons, List.map_nil, List.cons_append, List.nil_append, List.append_nil, List.getElem?_cons_zero, List.getElem?_cons_succ, List.set_cons_zero, List.set_cons_succ, List.length_cons, List.length_nil, List.replicate, Nat.reduceAdd, Nat.reduceSub, Nat.add_eq, Nat.add_zero, Nat.sub_self, if_true, if_false, Bool.false_eq_true, reduceIte, Option.getD_some, o_addI, o_slT, o_slS, o_slL, o_lenS, o_lenT, o_lenL, o_lenSc, o_tupS, o_tupL, o_tupT, o_ixT0, o_ixT1, o_ixT2, o_ixL0, o_ixL1, ty_str, sizeLine_eq, Nat.reduceLeDiff, Nat.zero_le, Nat.reduceLT, Int.reduceLT, Int.reduceLE, Int.reduceNeg, and_self, and_true, true_and, Int.reduceToNat]
    refine ⟨rfl, CutOk.cons (.inl (ints_data ns2)) CutOk.nil, ?_⟩
    exact h _ ns2 (Nat.le_trans cut_len hl)
end Gen
namespace Gen
open PySem PySem.Spec PyProof.Rows L2 Eng
theorem pick0 {a : W} : pick [0] [] [a] = [a] := rfl
theorem pick10 {a b : W} : pick [1, 0] [] [a, b] = [b, a] := rfl
theorem sameE {ls : List Str} {rs : List Rule} {m : Str} {z : Str} {S : Store} (T : TabOk ls rs) (hz : z.length ≤ 8) :
    ∃ v, m_ends_of [tabW ls rs m, .str z] S = .ok v S ∧ m__law_ends [.tup (rs.map ruleW), .str z] S = .ok v S ∧ m__law_same 4 [v, v] S = .ok (.bl true) S := by
  have h1 := T.rlen
  have h0 := signs_row hz
  obtain ⟨l, ⟨f1, b1⟩, e1⟩ := ends_eq (ls := ls) (rs := rs) (m := m) (z := z) (S := S) (by omega) h0
  obtain ⟨l2, f2, e2⟩ := lends_eq (rs := rs) (z := z) (S := S) (by omega) h0
  have e3 : srt (lexL ltS) (l.filter (isEnd rs)) = srt (lexL ltS) (l2.filter (isEnd rs)) := srt_eq sto_S.lex ((f1.perm f2).filter _)
  rw [← e3] at e2
  have hp := srt_perm (lt := lexL ltS) (l.filter (isEnd rs))
  refine ⟨_, e1, e2, same_rows ?_ fun r hr => ?_⟩
  · rw [hp.length_eq]
    have := List.length_filter_le (isEnd rs) l
    omega
  · have := (h0.reach ((f1.all r).mp (List.mem_filter.mp (hp.mem_iff.mp hr)).1)).len
    omega
theorem sameM {ls : List Str} {rs : List Rule} {m m' : Str} {S : Store} (T : TabOk ls rs) :
    ∃ l : List Str, m_makeable [tabW ls rs m] S = .ok (.tup (l.map W.str)) S ∧ m__law_made [tabW ls rs m'] S = .ok (.lst (l.map W.str)) S ∧ m__law_same 4 [.tup (l.map W.str), .tup (l.map W.str)] S = .ok (.bl true) S := by
  have h1 := T.rlen
  have h2 := T.len
  refine ⟨_, makeable_eq (by omega) (by omega) T.nd (fun x hx => (T.ok x hx).ok) T.rok, made_eq (by omega) (by omega) T.rok, same_strs ?_⟩
  rw [(srt_perm _).length_eq]
  have := foldN_len rs ls (List.range rs.length)
  rw [List.length_range] at this
  have h3 : rs.length * rs.length ≤ 6 * 6 := Nat.mul_le_mul h1 h1
  unfold madeL
  omega
theorem law_ok (ns : List Int) : OkE (m_law [.scr ns] []) fun w _ => w = .bl true := by
  unfold m_law fnRes b_law
  refine OkE.leave ?_
  simp only [startW, List.map_cons, List.map_nil, List.length_cons, List.length_nil, Nat.reduceAdd, Nat.reduceSub, List.replicate, List.cons_append, List.nil_append]
  refine OkS.cut (fun τ S => ∃ l, τ = [some (.scr ns), some (.ref 0), none, none, none, none, none] ∧ S = [rowO l]) ?_ ?_
  · simp -implicitDefEqProofs only [OkS.ret, OkS.seq, OkS.asg, OkS.exp, OkS.ite, OkS.skip, OkS.brk, OkS.cnt, OkS.for, OkS.while, OkE.bnd, OkE.toS, OkE.ok, OkE.nox, OkE.comp, OkS.nxt, OkS.rtn, mIf, mTest, mBin, mVar, mC, mCall, mCons, mNil, mStar, mSl, mPart, mNoPart, mMeth, mMeth0, mTup, mLst, mLstR, mNeg, mNot, mAnd, mOr, mAndV, mOrV, mNotV, mYes, mRng1, mWk, mEnum, mEnumZip, mZip, mFn, mPar, mPar3, mAug, mIsi, mExpr, gSet, gTupW, gConsW, gNilW, gPut, seqT, startW, wipeW, cName, cTup, cCons, cNil, oIntX, oInt, oAbs, oMin2, oGt, oGe, oLt, oLe, oMod, oFdiv, oSub, oIAdd, Res.bind_ok, Res.toS_ok, noX_okk, List.map_cons, List.map_nil, List.cons_append, List.nil_append, List.append_nil, List.getElem?_cons_zero, List.getElem?_cons_succ, List.set_cons_zero, List.set_cons_succ, List.length_cons, List.length_nil, List.replicate, Nat.reduceAdd, Nat.reduceSub, Nat.add_eq, Nat.add_zero, Nat.sub_self, if_true, if_false, Bool.false_eq_true, reduceIte, Option.getD_some, o_addI, o_slT, o_slS, o_slL, o_lenS, o_lenT, o_lenL, o_lenSc, o_tupS, o_tupL, o_tupT, o_ixT0, o_ixT1, o_ixT2, o_ixL0, o_ixL1, ty_str, sizeLine_eq, Nat.reduceLeDiff, Nat.zero_le, Nat.reduceLT, Int.reduceLT, Int.reduceLE, Int.reduceNeg, and_self, and_true, true_and, Int.reduceToNat]
    refine row_ok (many := 110) (by omega) fun l => ?_
    exact ⟨l, rfl, rfl⟩
  rintro τ S ⟨l1, rfl, rfl⟩
  refine OkS.cut (fun τ S => ∃ ls rs m l, TabOk ls rs ∧ τ = [some (.scr ns), some (.ref 0), some (tabW ls rs m), none, none, none, none] ∧ S = [rowO l]) ?_ ?_
  · simp -implicitDefEqProofs only [OkS.ret, OkS.seq, OkS.asg, OkS.exp, OkS.ite, OkS.skip, OkS.brk, OkS.cnt, OkS.for, OkS.while, OkE.bnd, OkE.toS, OkE.ok, OkE.nox, OkE.comp, OkS.nxt, OkS.rtn, mIf, mTest, mBin, mVar, mC, mCall, mCons, mNil, mStar, mSl, mPart, mNoPart, mMeth, mMeth0, mTup, mLst, mLstR, mNeg, mNot, mAnd, mOr, mAndV, mOrV, mNotV, mYes, mRng1, mWk, mEnum, mEnumZip, mZip, mFn, mPar, mPar3, mAug, mIsi, mExpr, gSet, gTupW, gConsW, gNilW, gPut, seqT, startW, wipeW, cName, cTup, cCons, cNil, oIntX, oInt, oAbs, oMin2, oGt, oGe, oLt, oLe, oMod, oFdiv, oSub, oIAdd, Res.bind_ok, Res.toS_ok, noX_okk, List.map_cons, List.map_nil, List.cons_append, List.nil_append, List.append_nil, List.getElem?_cons_zero, List.getElem?_cons_succ, List.set_cons_zero, List.set_cons_succ, List.length_cons, List.length_nil, List.replicate, Nat.reduceAdd, Nat.reduceSub, Nat.add_eq, Nat.add_zero, Nat.sub_self, if_true, if_false, Bool.false_eq_true, reduceIte, Option.getD_some, o_addI, o_slT, o_slS, o_slL, o_lenS, o_lenT, o_lenL, o_lenSc, o_tupS, o_tupL, o_tupT, o_ixT0, o_ixT1, o_ixT2, o_ixL0, o_ixL1, ty_str, sizeLine_eq, Nat.reduceLeDiff, Nat.zero_le, Nat.reduceLT, Int.reduceLT, Int.reduceLE, Int.reduceNeg, and_self, and_true, true_and, Int.reduceToNat]
    refine table_ok fun ls rs m l hT => ?_
    exact ⟨ls, rs, m, l, hT, rfl, rfl⟩
  rintro τ S ⟨ls, rs, m, l2, hT, rfl, rfl⟩
  refine OkS.cut (fun τ S => τ = [some (.scr ns), some (.ref 0), some (tabW ls rs m), none, none, none, none] ∧ S = [rowO l2]) ?_ ?_
  · obtain ⟨l, q1, q2, q3⟩ := sameM (m := m) (m' := m) (S := [rowO l2]) hT
    simp -implicitDefEqProofs only [OkS.ret, OkS.seq, OkS.asg, OkS.exp, OkS.ite, OkS.skip, OkS.brk, OkS.cnt, OkS.for, OkS.while, OkE.bnd, OkE.toS, OkE.ok, OkE.nox, OkE.comp, OkS.nxt, OkS.rtn, mIf, mTest, mBin, mVar, mC, mCall, mCons, mNil, mStar, mSl, mPart, mNoPart, mMeth, mMeth0, mTup, mLst, mLstR, mNeg, mNot, mAnd, mOr, mAndV, mOrV, mNotV, mYes, mRng1, mWk, mEnum, mEnumZip, mZip, mFn, mPar, mPar3, mAug, mIsi, mExpr, gSet, gTupW, gConsW, gNilW, gPut, seqT, startW, wipeW, cName, cTup, cCons, cNil, oIntX, oInt, oAbs, oMin2, oGt, oGe, oLt, oLe, oMod, oFdiv, oSub, oIAdd, Res.bind_ok, Res.toS_ok, noX_okk, List.map_cons, List.map_nil, List.cons_append, List.nil_append, List.append_nil, List.getElem?_cons_zero, List.getElem?_cons_succ, List.set_cons_zero, List.set_cons_succ, List.length_cons, List.length_nil, List.replicate, Nat.reduceAdd, Nat.reduceSub, Nat.add_eq, Nat.add_zero, Nat.sub_self, if_true, if_false, Bool.false_eq_true, reduceIte, Option.getD_some, o_addI, o_slT, o_slS, o_slL, o_lenS, o_lenT, o_lenL, o_lenSc, o_tupS, o_tupL, o_tupT, o_ixT0, o_ixT1, o_ixT2, o_ixL0, o_ixL1, ty_str, sizeLine_eq, Nat.reduceLeDiff, Nat.zero_le, Nat.reduceLT, Int.reduceLT, Int.reduceLE, Int.reduceNeg, and_self, and_true, true_and, Int.reduceToNat, q1, q2, q3, Bool.not_true]
  rintro τ S ⟨rfl, rfl⟩
  refine OkS.cut (fun τ S => ∃ (zs : List Str) (l : List Int), zs.length = 5 ∧ (∀ z ∈ zs, z.length ≤ 8) ∧ τ = [some (.scr ns), some (.ref 0), some (tabW ls rs m), some (.lst (zs.map W.str)), none, none, none] ∧ S = [rowO l]) ?_ ?_
  · simp -implicitDefEqProofs only [OkS.ret, OkS.seq, OkS.asg, OkS.exp, OkS.ite, OkS.skip, OkS.brk, OkS.cnt, OkS.for, OkS.while, OkE.bnd, OkE.toS, OkE.ok, OkE.nox, OkE.comp, OkS.nxt, OkS.rtn, mIf, mTest, mBin, mVar, mC, mCall, mCons, mNil, mStar, mSl, mPart, mNoPart, mMeth, mMeth0, mTup, mLst, mLstR, mNeg, mNot, mAnd, mOr, mAndV, mOrV, mNotV, mYes, mRng1, mWk, mEnum, mEnumZip, mZip, mFn, mPar, mPar3, mAug, mIsi, mExpr, gSet, gTupW, gConsW, gNilW, gPut, seqT, startW, wipeW, cName, cTup, cCons, cNil, oIntX, oInt, oAbs, oMin2, oGt, oGe, oLt, oLe, oMod, oFdiv, oSub, oIAdd, Res.bind_ok, Res.toS_ok, noX_okk, List.map_cons, List.map_nil, List.cons_append, List.nil_append, List.append_nil, List.getElem?_cons_zero, List.getElem?_cons_succ, List.set_cons_zero, List.set_cons_succ, List.length_cons, List.length_nil, List.replicate, Nat.reduceAdd, Nat.reduceSub, Nat.add_eq, Nat.add_zero, Nat.sub_self, if_true, if_false, Bool.false_eq_true, reduceIte, Option.getD_some, o_addI, o_slT, o_slS, o_slL, o_lenS, o_lenT, o_lenL, o_lenSc, o_tupS, o_tupL, o_tupT, o_ixT0, o_ixT1, o_ixT2, o_ixL0, o_ixL1, ty_str, sizeLine_eq, Nat.reduceLeDiff, Nat.zero_le, Nat.reduceLT, Int.reduceLT, Int.reduceLE, Int.reduceNeg, and_self, and_true, true_and, Int.reduceToNat]
    rw [if_pos (by decide), OkE.ok, rangeW_map]
    refine comp_mapI (fun pre acc S => ∃ (zs : List Str) (l : List Int), acc = zs.map W.str ∧ (∀ z ∈ zs, z.length ≤ 8) ∧ zs.length = pre.length ∧ S = [rowO l]) ⟨[], l2, rfl, fun x hx => (by cases hx), rfl, rfl⟩ ?_ ?_
    · rintro pre k post acc S e ⟨zs, l, rfl, hz, hzl, rfl⟩
      have hpl4 : pre.length < 4 := by
        have := congrArg List.length e
        simp at this
        omega
      refine ⟨[some (.scr ns), some (.ref 0), some (tabW ls rs m), none, some (.int (k : Nat)), none, none], by simp -implicitDefEqProofs only [OkS.ret, OkS.seq, OkS.asg, OkS.exp, OkS.ite, OkS.skip, OkS.brk, OkS.cnt, OkS.for, OkS.while, OkE.bnd, OkE.toS, OkE.ok, OkE.nox, OkE.comp, OkS.nxt, OkS.rtn, mIf, mTest, mBin, mVar, mC, mCall, mCons, mNil, mStar, mSl, mPart, mNoPart, mMeth, mMeth0, mTup, mLst, mLstR, mNeg, mNot, mAnd, mOr, mAndV, mOrV, mNotV, mYes, mRng1, mWk, mEnum, mEnumZip, mZip, mFn, mPar, mPar3, mAug, mIsi, mExpr, gSet, gTupW, gConsW, gNilW, gPut, seqT, startW, wipeW, cName, cTup, cCons, cNil, oIntX, oInt, oAbs, oMin2, oGt, oGe, oLt, oLe, oMod, oFdiv, oSub, oIAdd, Res.bind_ok, Res.toS_ok, noX_okk, List.map_cons, List.map_nil, List.cons_append, List.nil_append, List.append_nil, List.getElem?_cons_zero, List.getElem?_cons_succ, List.set_cons_zero, List.set_cons_succ, List.length_cons, List.length_nil, List.replicate, Nat.reduceAdd, Nat.reduceSub, Nat.add_eq, Nat.add_zero, Nat.sub_self, if_true, if_false, Bool.false_eq_true, reduceIte, Option.getD_some, o_addI, o_slT, o_slS, o_slL, o_lenS, o_lenT, o_lenL, o_lenSc, o_tupS, o_tupL, o_tupT, o_ixT0, o_ixT1, o_ixT2, o_ixL0, o_ixL1, ty_str, sizeLine_eq, Nat.reduceLeDiff, Nat.zero_le, Nat.reduceLT, Int.reduceLT, Int.reduceLE, Int.reduceNeg, and_self, and_true, true_and, Int.reduceToNat], ?_⟩
      simp -implicitDefEqProofs only [OkS.ret, OkS.seq, OkS.asg, OkS.exp, OkS.ite, OkS.skip, OkS.brk, OkS.cnt, OkS.for, OkS.while, OkE.bnd, OkE.toS, OkE.ok, OkE.nox, OkE.comp, OkS.nxt, OkS.rtn, mIf, mTest, mBin, mVar, mC, mCall, mCons, mNil, mStar, mSl, mPart, mNoPart, mMeth, mMeth0, mTup, mLst, mLstR, mNeg, mNot, mAnd, mOr, mAndV, mOrV, mNotV, mYes, mRng1, mWk, mEnum, mEnumZip, mZip, mFn, mPar, mPar3, mAug, mIsi, mExpr, gSet, gTupW, gConsW, gNilW, gPut, seqT, startW, wipeW, cName, cTup, cCons, cNil, oIntX, oInt, oAbs, oMin2, oGt, oGe, oLt, oLe, oMod, oFdiv, oSub, oIAdd, Res.bind_ok, Res.toS_ok, noX_okk, List.map_cons, List.map_nil, List.cons_append, List.nil_append, List.append_nil, List.getElem?_cons_zero, List.getElem?_cons_succ, List.set_cons_zero, List.set_cons_succ, List.length_cons, List.length_nil, List.replicate, Nat.reduceAdd, Nat.reduceSub, Nat.add_eq, Nat.add_zero, Nat.sub_self, if_true, if_false, Bool.false_eq_true, reduceIte, Option.getD_some, o_addI, o_slT, o_slS, o_slL, o_lenS, o_lenT, o_lenL, o_lenSc, o_tupS, o_tupL, o_tupT, o_ixT0, o_ixT1, o_ixT2, o_ixL0, o_ixL1, ty_str, sizeLine_eq, Nat.reduceLeDiff, Nat.zero_le, Nat.reduceLT, Int.reduceLT, Int.reduceLE, Int.reduceNeg, and_self, and_true, true_and, Int.reduceToNat]
      refine text_ok hT fun z l' hz8 => ?_
      refine ⟨by rw [List.length_map]; omega, zs ++ [z], l', by rw [List.map_append]; rfl, fun y hy => ?_, by simp [hzl], rfl⟩
      rcases List.mem_append.mp hy with q | q
      · exact hz y q
      · have : y = z := by simpa using q
        subst this
        exact hz8
    · rintro acc S ⟨zs, l, rfl, hz, hzl, rfl⟩
      rw [List.length_range] at hzl
      have ea : ∀ S, oAdd (.lst (zs.map W.str)) (.lst [.str ""]) S = .ok (.lst ((zs ++ [("" : Str)]).map W.str)) S := fun S => by
        rw [o_addL (by rw [List.length_map, sizeLine_eq]; simp; omega), List.map_append]
        rfl
      simp -implicitDefEqProofs only [OkS.ret, OkS.seq, OkS.asg, OkS.exp, OkS.ite, OkS.skip, OkS.brk, OkS.cnt, OkS.for, OkS.while, OkE.bnd, OkE.toS, OkE.ok, OkE.nox, OkE.comp, OkS.nxt, OkS.rtn, mIf, mTest, mBin, mVar, mC, mCall, mCons, mNil, mStar, mSl, mPart, mNoPart, mMeth, mMeth0, mTup, mLst, mLstR, mNeg, mNot, mAnd, mOr, mAndV, mOrV, mNotV, mYes, mRng1, mWk, mEnum, mEnumZip, mZip, mFn, mPar, mPar3, mAug, mIsi, mExpr, gSet, gTupW, gConsW, gNilW, gPut, seqT, startW, wipeW, cName, cTup, cCons, cNil, oIntX, oInt, oAbs, oMin2, oGt, oGe, oLt, oLe, oMod, oFdiv, oSub, oIAdd, Res.bind_ok, Res.toS_ok, noX_okk, List.map_cons, List.map_nil, List.cons_append, List.nil_append, List.append_nil, List.getElem?_cons_zero, List.getElem?_cons_succ, List.set_cons_zero, List.set_cons_succ, List.length_cons, List.length_nil, List.replicate, Nat.reduceAdd, Nat.reduceSub, Nat.add_eq, Nat.add_zero, Nat.sub_self, if_true, if_false, Bool.false_eq_true, reduceIte, Option.getD_some, o_addI, o_slT, o_slS, o_slL, o_lenS, o_lenT, o_lenL, o_lenSc, o_tupS, o_tupL, o_tupT, o_ixT0, o_ixT1, o_ixT2, o_ixL0, o_ixL1, ty_str, sizeLine_eq, Nat.reduceLeDiff, Nat.zero_le, Nat.reduceLT, Int.reduceLT, Int.reduceLE, Int.reduceNeg, and_self, and_true, true_and, Int.reduceToNat, ea]
      refine ⟨zs ++ [("" : Str)], l, by simp [hzl], fun y hy => ?_, rfl, rfl⟩
      rcases List.mem_append.mp hy with q | q
      · exact hz y q
      · have : y = "" := by simpa using q
        subst this
        decide
  rintro τ S ⟨zs, l3, hzl, hz, rfl, rfl⟩
  refine OkS.cut (fun τ S => ∃ x5, τ = [some (.scr ns), some (.ref 0), some (tabW ls rs m), some (.lst (zs.map W.str)), none, x5, none] ∧ S = [rowO l3]) ?_ ?_
  · simp -implicitDefEqProofs only [OkS.ret, OkS.seq, OkS.asg, OkS.exp, OkS.ite, OkS.skip, OkS.brk, OkS.cnt, OkS.for, OkS.while, OkE.bnd, OkE.toS, OkE.ok, OkE.nox, OkE.comp, OkS.nxt, OkS.rtn, mIf, mTest, mBin, mVar, mC, mCall, mCons, mNil, mStar, mSl, mPart, mNoPart, mMeth, mMeth0, mTup, mLst, mLstR, mNeg, mNot, mAnd, mOr, mAndV, mOrV, mNotV, mYes, mRng1, mWk, mEnum, mEnumZip, mZip, mFn, mPar, mPar3, mAug, mIsi, mExpr, gSet, gTupW, gConsW, gNilW, gPut, seqT, startW, wipeW, cName, cTup, cCons, cNil, oIntX, oInt, oAbs, oMin2, oGt, oGe, oLt, oLe, oMod, oFdiv, oSub, oIAdd, Res.bind_ok, Res.toS_ok, noX_okk, List.map_cons, List.map_nil, List.cons_append, List.nil_append, List.append_nil, List.getElem?_cons_zero, List.getElem?_cons_succ, List.set_cons_zero, List.set_cons_succ, List.length_cons, List.length_nil, List.replicate, Nat.reduceAdd, Nat.reduceSub, Nat.add_eq, Nat.add_zero, Nat.sub_self, if_true, if_false, Bool.false_eq_true, reduceIte, Option.getD_some, o_addI, o_slT, o_slS, o_slL, o_lenS, o_lenT, o_lenL, o_lenSc, o_tupS, o_tupL, o_tupT, o_ixT0, o_ixT1, o_ixT2, o_ixL0, o_ixL1, ty_str, sizeLine_eq, Nat.reduceLeDiff, Nat.zero_le, Nat.reduceLT, Int.reduceLT, Int.reduceLE, Int.reduceNeg, and_self, and_true, true_and, Int.reduceToNat]
    refine for_map (fun pre τ S => ∃ x5, τ = [some (.scr ns), some (.ref 0), some (tabW ls rs m), some (.lst (zs.map W.str)), none, x5, none] ∧ S = [rowO l3]) ⟨_, rfl, rfl⟩ ?_ ?_
    · rintro pre z post τ S e ⟨x5, rfl, rfl⟩
      obtain ⟨v, q1, q2, q3⟩ := sameE (m := m) (S := [rowO l3]) hT (hz z (by rw [e]; simp))
      simp -implicitDefEqProofs only [OkS.ret, OkS.seq, OkS.asg, OkS.exp, OkS.ite, OkS.skip, OkS.brk, OkS.cnt, OkS.for, OkS.while, OkE.bnd, OkE.toS, OkE.ok, OkE.nox, OkE.comp, OkS.nxt, OkS.rtn, mIf, mTest, mBin, mVar, mC, mCall, mCons, mNil, mStar, mSl, mPart, mNoPart, mMeth, mMeth0, mTup, mLst, mLstR, mNeg, mNot, mAnd, mOr, mAndV, mOrV, mNotV, mYes, mRng1, mWk, mEnum, mEnumZip, mZip, mFn, mPar, mPar3, mAug, mIsi, mExpr, gSet, gTupW, gConsW, gNilW, gPut, seqT, startW, wipeW, cName, cTup, cCons, cNil, oIntX, oInt, oAbs, oMin2, oGt, oGe, oLt, oLe, oMod, oFdiv, oSub, oIAdd, Res.bind_ok, Res.toS_ok, noX_okk, List.map_cons, List.map_nil, List.cons_append, List.nil_append, List.append_nil, List.getElem?_cons_zero, List.getElem?_cons_succ, List.set_cons_zero, List.set_cons_succ, List.length_cons, List.length_nil, List.replicate, Nat.reduceAdd, Nat.reduceSub, Nat.add_eq, Nat.add_zero, Nat.sub_self, if_true, if_false, Bool.false_eq_true, reduceIte, Option.getD_some, o_addI, o_slT, o_slS, o_slL, o_lenS, o_lenT, o_lenL, o_lenSc, o_tupS, o_tupL, o_tupT, o_ixT0, o_ixT1, o_ixT2, o_ixL0, o_ixL1, ty_str, sizeLine_eq, Nat.reduceLeDiff, Nat.zero_le, Nat.reduceLT, Int.reduceLT, Int.reduceLE, Int.reduceNeg, and_self, and_true, true_and, Int.reduceToNat, q1, tab_ix, q2, q3, Bool.not_true]
      exact ⟨_, rfl⟩
    · rintro τ S ⟨x5, rfl, rfl⟩
      exact ⟨_, rfl, rfl⟩
  rintro τ S ⟨x5, rfl, rfl⟩
  refine OkS.cut (fun τ S => ∃ m' l, τ = [some (.scr ns), some (.ref 0), some (tabW ls rs m), some (.lst (zs.map W.str)), none, x5, some (tabW ls rs m')] ∧ S = [rowO l]) ?_ ?_
  · simp -implicitDefEqProofs only [OkS.ret, OkS.seq, OkS.asg, OkS.exp, OkS.ite, OkS.skip, OkS.brk, OkS.cnt, OkS.for, OkS.while, OkE.bnd, OkE.toS, OkE.ok, OkE.nox, OkE.comp, OkS.nxt, OkS.rtn, mIf, mTest, mBin, mVar, mC, mCall, mCons, mNil, mStar, mSl, mPart, mNoPart, mMeth, mMeth0, mTup, mLst, mLstR, mNeg, mNot, mAnd, mOr, mAndV, mOrV, mNotV, mYes, mRng1, mWk, mEnum, mEnumZip, mZip, mFn, mPar, mPar3, mAug, mIsi, mExpr, gSet, gTupW, gConsW, gNilW, gPut, seqT, startW, wipeW, cName, cTup, cCons, cNil, oIntX, oInt, oAbs, oMin2, oGt, oGe, oLt, oLe, oMod, oFdiv, oSub, oIAdd, Res.bind_ok, Res.toS_ok, noX_okk, List.map_cons, List.map_nil, List.cons_append, List.nil_append, List.append_nil, List.getElem?_cons_zero, List.getElem?_cons_succ, List.set_cons_zero, List.set_cons_succ, List.length_cons, List.length_nil, List.replicate, Nat.reduceAdd, Nat.reduceSub, Nat.add_eq, Nat.add_zero, Nat.sub_self, if_true, if_false, Bool.false_eq_true, reduceIte, Option.getD_some, o_addI, o_slT, o_slS, o_slL, o_lenS, o_lenT, o_lenL, o_lenSc, o_tupS, o_tupL, o_tupT, o_ixT0, o_ixT1, o_ixT2, o_ixL0, o_ixL1, ty_str, sizeLine_eq, Nat.reduceLeDiff, Nat.zero_le, Nat.reduceLT, Int.reduceLT, Int.reduceLE, Int.reduceNeg, and_self, and_true, true_and, Int.reduceToNat, tab_ix, tab_ix0]
    refine manner_ok fun m' l => ?_
    exact ⟨m', l, rfl, rfl⟩
  rintro τ S ⟨m', l4, rfl, rfl⟩
  obtain ⟨l, q1, q2, q3⟩ := sameM (m := m') (m' := m) (S := [rowO l4]) hT
  match zs, hzl, hz with
  | z :: zs, _, hz =>
    obtain ⟨v, p1, p2, p3⟩ := sameE (m := m') (S := [rowO l4]) hT (hz z (by simp))
    simp -implicitDefEqProofs only [OkS.ret, OkS.seq, OkS.asg, OkS.exp, OkS.ite, OkS.skip, OkS.brk, OkS.cnt, OkS.for, OkS.while, OkE.bnd, OkE.toS, OkE.ok, OkE.nox, OkE.comp, OkS.nxt, OkS.rtn, mIf, mTest, mBin, mVar, mC, mCall, mCons, mNil, mStar, mSl, mPart, mNoPart, mMeth, mMeth0, mTup, mLst, mLstR, mNeg, mNot, mAnd, mOr, mAndV, mOrV, mNotV, mYes, mRng1, mWk, mEnum, mEnumZip, mZip, mFn, mPar, mPar3, mAug, mIsi, mExpr, gSet, gTupW, gConsW, gNilW, gPut, seqT, startW, wipeW, cName, cTup, cCons, cNil, oIntX, oInt, oAbs, oMin2, oGt, oGe, oLt, oLe, oMod, oFdiv, oSub, oIAdd, Res.bind_ok, Res.toS_ok, noX_okk, List.map_cons, List.map_nil, List.cons_append, List.nil_append, List.append_nil, List.getElem?_cons_zero, List.getElem?_cons_succ, List.set_cons_zero, List.set_cons_succ, List.length_cons, List.length_nil, List.replicate, Nat.reduceAdd, Nat.reduceSub, Nat.add_eq, Nat.add_zero, Nat.sub_self, if_true, if_false, Bool.false_eq_true, reduceIte, Option.getD_some, o_addI, o_slT, o_slS, o_slL, o_lenS, o_lenT, o_lenL, o_lenSc, o_tupS, o_tupL, o_tupT, o_ixT0, o_ixT1, o_ixT2, o_ixL0, o_ixL1, ty_str, sizeLine_eq, Nat.reduceLeDiff, Nat.zero_le, Nat.reduceLT, Int.reduceLT, Int.reduceLE, Int.reduceNeg, and_self, and_true, true_and, Int.reduceToNat, mKw, pick0, pick10, q1, q2, q3, p1, p2, p3, tab_ix, Bool.not_true]
    exact ⟨rfl, CutOk.nil⟩
theorem plain (ns : List Int) (h : ns.length ≤ 63) : ∃ S', m_law [.scr ns] [] = .ok (.bl true) S' := by
  obtain ⟨w, S, e, rfl⟩ := (law_ok ns).ex
  exact ⟨S, e⟩
end Gen
set_option maxHeartbeats 0
open PySem PySem.W PySem.Calls PyProof.Rows
theorem PySem.Challenge.cw_paircuts_k41_ends_by_any_order_told_holds : PySem.Challenge.rw_paircuts_k41_ends_by_any_order_told.Holds := by
  w_on; o_law
  refine HandSHeadRun.head_any (r := OpenLaw.row PySem.Challenge.rw_paircuts_k41_ends_by_any_order_told) (q := view (OpenLaw.row PySem.Challenge.rw_paircuts_k41_ends_by_any_order_told).prog [18]) (H := Gen.hkL) (ob := Gen.obL) (M := 3000) (loose := Gen.looseL) (d := HandSHeadRun.topDef (OpenLaw.row PySem.Challenge.rw_paircuts_k41_ends_by_any_order_told).prog 18) (kwd := []) Gen.obL_eq
    (by kernel_rfl) (fun s => by kernel_rfl) Gen.runL (by kernel_rfl) (by kernel_rfl) (by kernel_rfl) (by rfl) (by first | assumption | decide +kernel) (by decide +kernel) ⟨rfl, rfl, rfl, rfl, rfl, by decide +kernel⟩ ?hw ?hc
  case hw => w_witness2
  case hc =>
    refine L2.walk_ofE (l := PySem.Challenge.rw_paircuts_k41_ends_by_any_order_told) (n := 63) (k := 5) (x := "_law_script") (CX := L2.CX0) rfl (by decide) (by kernel_rfl) ⟨rfl, by decide, by decide⟩ ?F (fun _ _ _ _ z => z)
    intro w mg fa h Y G hmg0
    obtain ⟨K, KX, c⟩ := Y
    have hmg : mg ("law" : PySem.Str) = some (.ref fa) := by
      have e : (HandSHeadRun.topDef (OpenLaw.row PySem.Challenge.rw_paircuts_k41_ends_by_any_order_told).prog 18).name = ("law" : PySem.Str) := by kernel_rfl
      rw [← e]
      exact hmg0
    obtain ⟨fd, hb, hF⟩ := Gen.factsL (P := (PySem.Challenge.rw_paircuts_k41_ends_by_any_order_told).prog) (w := w) KX G hmg c
    exact ⟨K, fd, (fun vs H Q _ => Eng.spA K 1 Gen.m_law vs H Q fun _ _ _ => False), KX, hb, fun H a ns hl _ hS => Eng.law_sp hS (Gen.plain ns hl), hF⟩
